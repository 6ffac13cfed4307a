import PyProof.Rows.All
import Wide.All
import OpenK.AllK
import Wide.FinOn
import HandS.ForMost
import HandS.Exc
import HandS.Deep
import HandS.TupAny
import HandS.Style
import HandS.Wide
import HandS.WideMore
import HandS.IsInst
import HandS.TupLen
import HandS.TupMul
import HandS.Conv
import PyProof.ReprRoads
import PyProof.TupleOfStr
import HandS.Flow
import KE.KEqDict
import KE.GoesEnum
import HandS.Small
import HandS.Defaults
import HandS.SortInts
import PySem.Challenge.RW_strikeline_k03_whole_books_put_together
set_option Elab.async false
set_option linter.all false
set_option maxRecDepth 100000
set_option maxHeartbeats 4000000
/-! FD: what a text denotes as a function of plain data, over the hand layer: values, the state, the judgements. -/
namespace FD
open PySem L2

abbrev D := PyData
/-- what a slot holds: data that nobody changes any more, or a tree of things that this slot alone owns -/
inductive M where
  | im (d : D)
  | ls (ms : List M)
  | dk (kvs : List (Key × M))
  | dt (kvs : List (List Key × M))
  | ob (C : Addr) (fs : List (Str × M))

abbrev Env := List (Option M)
inductive Out (α : Type) where
  | ok (a : α) (e : Env)
  | ex (C : Addr) (fs : List (Str × D)) (e : Env)
  | no
abbrev EM (α : Type) := Env → Out α
def bnd {α β : Type} (f : EM α) (k : α → EM β) : EM β := fun e => match f e with
  | .ok a e' => k a e'
  | .ex C fs e' => .ex C fs e'
  | .no => .no
def ret {α : Type} (a : α) : EM α := fun e => .ok a e
/-- a partial operation on data -/
def lif {α : Type} : Option α → EM α
  | some a => fun e => .ok a e
  | none => fun _ => .no

def keyD : Key → D
  | .inl i => .int i
  | .inr x => .str x

/-! ### heaps -/
/-- what F knows stands in H; a tuple just so -/
structure Sub (F H : Hp) : Prop where
  rd : ∀ a u, Rd F a u → Rd H a u
  tp : ∀ a vs, F a = some (.tup vs) → H a = some (.tup vs)
  fz : ∀ a o u, F a = some (.frz o u) → H a = some (.frz o u)
theorem Sub.refl (F : Hp) : Sub F F := ⟨fun _ _ h => h, fun _ _ h => h, fun _ _ _ h => h⟩
theorem Sub.trans {F G H : Hp} (a : Sub F G) (b : Sub G H) : Sub F H := ⟨fun x u h => b.rd x u (a.rd x u h), fun x u h => b.tp x u (a.tp x u h), fun x o u h => b.fz x o u (a.fz x o u h)⟩
theorem Sub.l {K : PySem.W.Frag} {F H : Hp} {a : Addr} {xs : List V} (s : Sub F H) (h : SqL K F a xs) : SqL K H a xs := h.imp (s.rd a _) id
theorem Sub.t {K : PySem.W.Frag} {F H : Hp} {a : Addr} {xs : List V} (s : Sub F H) (h : F a = some (.tup xs)) : SqT K H a xs := SqT.of (s.tp a xs h)
theorem rd_none {F : Hp} {a : Addr} {u : HO} (h : F a = none) : ¬ Rd F a u := fun r => by
  rcases r with r | ⟨_, r⟩
  · rw [h] at r; cases r
  · rw [h] at r; cases r
theorem Sub.non {F H : Hp} {a : Addr} (s : Sub F H) (h : H a = none) : F a = none := by
  cases e : F a with
  | none => rfl
  | some o => exact absurd (s.rd a o (.inl e)) (rd_none h)
/-- the same at a -/
theorem rd_at {F G : Hp} {a : Addr} {u : HO} (e : G a = F a) (r : Rd F a u) : Rd G a u := by
  unfold Rd at r ⊢
  rw [e]
  exact r
theorem Sub.new {F : Hp} {p : Addr} {o : HO} (h : F p = none) : Sub F (upd F p o) where
  rd := fun a u r => rd_at (upd_ne fun e => rd_none (by rw [e]; exact h) r) r
  tp := fun a vs q => by
    rw [upd_ne (ne_of_none q h)]
    exact q
  fz := fun a _ _ q => by
    rw [upd_ne (ne_of_none q h)]
    exact q
theorem Sub.both {F H : Hp} {p : Addr} {o : HO} (s : Sub F H) : Sub (upd F p o) (upd H p o) where
  rd := fun a u r => by
    by_cases e : a = p
    · subst e
      exact rd_at (by rw [upd_same, upd_same]) r
    · exact rd_at (upd_ne e) (s.rd a u (rd_at (upd_ne e).symm r))
  tp := fun a vs q => by
    by_cases e : a = p
    · subst e
      rw [upd_same] at q ⊢
      exact q
    · rw [upd_ne e] at q ⊢
      exact s.tp a vs q
  fz := fun a ob u q => by
    by_cases e : a = p
    · subst e
      rw [upd_same] at q ⊢
      exact q
    · rw [upd_ne e] at q ⊢
      exact s.fz a ob u q
/-- what F does not know may change -/
theorem Sub.mut {F H : Hp} {p : Addr} {o : HO} (s : Sub F H) (h : F p = none) : Sub F (upd H p o) where
  rd := fun a u r => rd_at (upd_ne fun e => rd_none (by rw [e]; exact h) r) (s.rd a u r)
  tp := fun a vs q => by
    rw [upd_ne (ne_of_none q h)]
    exact s.tp a vs q
  fz := fun a ob u q => by
    rw [upd_ne (ne_of_none q h)]
    exact s.fz a ob u q

/-! ### data in a heap -/
mutual
inductive Rp (K : PySem.W.Frag) (F : Hp) : V → D → Prop
  | non : Rp K F .non .none
  | bl (b : Bool) : Rp K F (.bl b) (.bool b)
  | int (i : Int) : Rp K F (.int i) (.int i)
  | str (x : Str) : Rp K F (.str x) (.str x)
  | lst {a : Addr} {vs : List V} {ds : List D} : SqL K F a vs → RpL K F vs ds → Rp K F (.ref a) (.list ds)
  | tup {a : Addr} {vs : List V} {ds : List D} : F a = some (.tup vs) → RpL K F vs ds → Rp K F (.ref a) (.tuple ds)
  | dK {a : Addr} {kvs : List (Key × V)} {kds : List (Key × D)} : Rd F a (.dK kvs) → kvs.map (·.1) = kds.map (·.1) → RpL K F (kvs.map (·.2)) (kds.map (·.2)) → Rp K F (.ref a) (.dict (kds.map fun p => (keyD p.1, p.2)))
  | dT {a : Addr} {kvs : List (List Key × V)} {kds : List (List Key × D)} : Rd F a (.dT kvs) → kvs.map (·.1) = kds.map (·.1) → RpL K F (kvs.map (·.2)) (kds.map (·.2)) → Rp K F (.ref a) (.dict (kds.map fun p => (.tuple (p.1.map keyD), p.2)))
inductive RpL (K : PySem.W.Frag) (F : Hp) : List V → List D → Prop
  | nil : RpL K F [] []
  | cons {v : V} {vs : List V} {d : D} {ds : List D} : Rp K F v d → RpL K F vs ds → RpL K F (v :: vs) (d :: ds)
end
mutual
theorem Rp.mono {K : PySem.W.Frag} {F G : Hp} (s : Sub F G) : ∀ {v : V} {d : D}, Rp K F v d → Rp K G v d
  | _, _, .non => .non
  | _, _, .bl b => .bl b
  | _, _, .int i => .int i
  | _, _, .str x => .str x
  | _, _, .lst h r => .lst (s.l h) (RpL.mono s r)
  | _, _, .tup h r => .tup (s.tp _ _ h) (RpL.mono s r)
  | _, _, .dK h e r => .dK (s.rd _ _ h) e (RpL.mono s r)
  | _, _, .dT h e r => .dT (s.rd _ _ h) e (RpL.mono s r)
theorem RpL.mono {K : PySem.W.Frag} {F G : Hp} (s : Sub F G) : ∀ {vs : List V} {ds : List D}, RpL K F vs ds → RpL K G vs ds
  | _, _, .nil => .nil
  | _, _, .cons h r => .cons (Rp.mono s h) (RpL.mono s r)
end
theorem RpL.length {K : PySem.W.Frag} {F : Hp} : ∀ {vs : List V} {ds : List D}, RpL K F vs ds → vs.length = ds.length
  | _, _, .nil => rfl
  | _, _, .cons _ r => by rw [List.length_cons, List.length_cons, r.length]
theorem RpL.get {K : PySem.W.Frag} {F : Hp} : ∀ {vs : List V} {ds : List D} {i : Nat} {d : D}, RpL K F vs ds → ds[i]? = some d → ∃ v, vs[i]? = some v ∧ Rp K F v d
  | _, _, _, _, .nil, e => by simp at e
  | _, _, 0, _, .cons h _, e => by simp at e; subst e; exact ⟨_, rfl, h⟩
  | _, _, i + 1, d, .cons _ r, e => by
    obtain ⟨v, h1, h2⟩ := r.get (i := i) (d := d) (by simpa using e)
    exact ⟨v, by simpa using h1, h2⟩
theorem RpL.get' {K : PySem.W.Frag} {F : Hp} : ∀ {vs : List V} {ds : List D} {i : Nat} {v : V}, RpL K F vs ds → vs[i]? = some v → ∃ d, ds[i]? = some d ∧ Rp K F v d
  | _, _, _, _, .nil, e => by simp at e
  | _, _, 0, _, .cons h _, e => by simp at e; subst e; exact ⟨_, rfl, h⟩
  | _, _, i + 1, v, .cons _ r, e => by
    obtain ⟨d, h1, h2⟩ := r.get' (i := i) (v := v) (by simpa using e)
    exact ⟨d, by simpa using h1, h2⟩
theorem RpL.append {K : PySem.W.Frag} {F : Hp} : ∀ {vs us : List V} {ds es : List D}, RpL K F vs ds → RpL K F us es → RpL K F (vs ++ us) (ds ++ es)
  | _, _, _, _, .nil, r => r
  | _, _, _, _, .cons h t, r => .cons h (t.append r)
theorem RpL.take {K : PySem.W.Frag} {F : Hp} : ∀ {vs : List V} {ds : List D} (n : Nat), RpL K F vs ds → RpL K F (vs.take n) (ds.take n)
  | _, _, 0, _ => .nil
  | _, _, _ + 1, .nil => .nil
  | _, _, n + 1, .cons h t => .cons h (RpL.take n t)
theorem RpL.drop {K : PySem.W.Frag} {F : Hp} : ∀ {vs : List V} {ds : List D} (n : Nat), RpL K F vs ds → RpL K F (vs.drop n) (ds.drop n)
  | _, _, 0, r => r
  | _, _, _ + 1, .nil => .nil
  | _, _, n + 1, .cons _ t => RpL.drop n t
theorem RpL.reverse {K : PySem.W.Frag} {F : Hp} : ∀ {vs : List V} {ds : List D}, RpL K F vs ds → RpL K F vs.reverse ds.reverse
  | _, _, .nil => .nil
  | _, _, .cons h t => by
    rw [List.reverse_cons, List.reverse_cons]
    exact t.reverse.append (.cons h .nil)

/-! ### what is owned -/
mutual
inductive Own (K : PySem.W.Frag) (F H : Hp) : V → M → List Addr → Prop
  | im {v : V} {d : D} : Rp K F v d → Own K F H v (.im d) []
  | ls {a : Addr} {vs : List V} {ms : List M} {fp : List Addr} : H a = some (.lst vs) → OwnL K F H vs ms fp → Own K F H (.ref a) (.ls ms) (a :: fp)
  | dk {a : Addr} {kvs : List (Key × V)} {kms : List (Key × M)} {fp : List Addr} : H a = some (.dK kvs) → kvs.map (·.1) = kms.map (·.1) → OwnL K F H (kvs.map (·.2)) (kms.map (·.2)) fp → Own K F H (.ref a) (.dk kms) (a :: fp)
  | dt {a : Addr} {kvs : List (List Key × V)} {kms : List (List Key × M)} {fp : List Addr} : H a = some (.dT kvs) → kvs.map (·.1) = kms.map (·.1) → OwnL K F H (kvs.map (·.2)) (kms.map (·.2)) fp → Own K F H (.ref a) (.dt kms) (a :: fp)
  | ob {a C dx : Addr} {fs : List (Str × V)} {fms : List (Str × M)} {fp : List Addr} : H a = some (.ins C dx fs) → fs.map (·.1) = fms.map (·.1) → OwnL K F H (fs.map (·.2)) (fms.map (·.2)) fp → Own K F H (.ref a) (.ob C fms) (a :: fp)
inductive OwnL (K : PySem.W.Frag) (F H : Hp) : List V → List M → List Addr → Prop
  | nil : OwnL K F H [] [] []
  | cons {v : V} {vs : List V} {m : M} {ms : List M} {fp fq : List Addr} : Own K F H v m fp → OwnL K F H vs ms fq → OwnL K F H (v :: vs) (m :: ms) (fp ++ fq)
end
mutual
theorem Own.mono {K : PySem.W.Frag} {F G H J : Hp} (s : Sub F G) : ∀ {v : V} {m : M} {fp : List Addr}, (∀ a ∈ fp, ∀ o, H a = some o → J a = some o) → Own K F H v m fp → Own K G J v m fp
  | _, _, _, k, .im r => .im (r.mono s)
  | _, _, _, k, .ls h r => .ls (k _ (List.mem_cons_self) _ h) (OwnL.mono s (fun a q => k a (List.mem_cons_of_mem _ q)) r)
  | _, _, _, k, .dk h e r => .dk (k _ (List.mem_cons_self) _ h) e (OwnL.mono s (fun a q => k a (List.mem_cons_of_mem _ q)) r)
  | _, _, _, k, .dt h e r => .dt (k _ (List.mem_cons_self) _ h) e (OwnL.mono s (fun a q => k a (List.mem_cons_of_mem _ q)) r)
  | _, _, _, k, .ob h e r => .ob (k _ (List.mem_cons_self) _ h) e (OwnL.mono s (fun a q => k a (List.mem_cons_of_mem _ q)) r)
theorem OwnL.mono {K : PySem.W.Frag} {F G H J : Hp} (s : Sub F G) : ∀ {vs : List V} {ms : List M} {fp : List Addr}, (∀ a ∈ fp, ∀ o, H a = some o → J a = some o) → OwnL K F H vs ms fp → OwnL K G J vs ms fp
  | _, _, _, _, .nil => .nil
  | _, _, _, k, .cons h r => .cons (Own.mono s (fun a q => k a (List.mem_append_left _ q)) h) (OwnL.mono s (fun a q => k a (List.mem_append_right _ q)) r)
end
mutual
theorem Own.live {K : PySem.W.Frag} {F H : Hp} : ∀ {v : V} {m : M} {fp : List Addr}, Own K F H v m fp → ∀ a ∈ fp, ∃ o, H a = some o
  | _, _, _, .im r, a, q => by cases q
  | _, _, _, .ls h r, a, q => (List.mem_cons.mp q).elim (fun e => e ▸ ⟨_, h⟩) (fun z => r.live a z)
  | _, _, _, .dk h _ r, a, q => (List.mem_cons.mp q).elim (fun e => e ▸ ⟨_, h⟩) (fun z => r.live a z)
  | _, _, _, .dt h _ r, a, q => (List.mem_cons.mp q).elim (fun e => e ▸ ⟨_, h⟩) (fun z => r.live a z)
  | _, _, _, .ob h _ r, a, q => (List.mem_cons.mp q).elim (fun e => e ▸ ⟨_, h⟩) (fun z => r.live a z)
theorem OwnL.live {K : PySem.W.Frag} {F H : Hp} : ∀ {vs : List V} {ms : List M} {fp : List Addr}, OwnL K F H vs ms fp → ∀ a ∈ fp, ∃ o, H a = some o
  | _, _, _, .nil, a, q => by cases q
  | _, _, _, .cons h r, a, q => (List.mem_append.mp q).elim (fun z => h.live a z) (fun z => r.live a z)
end
mutual
theorem Own.ntup {K : PySem.W.Frag} {F H : Hp} : ∀ {v : V} {m : M} {fp : List Addr}, Own K F H v m fp → ∀ a ∈ fp, ∀ vs, H a ≠ some (.tup vs)
  | _, _, _, .im r, a, q => by cases q
  | _, _, _, .ls h r, a, q => (List.mem_cons.mp q).elim (fun e vs z => by rw [e, h] at z; cases z) (fun z => r.ntup a z)
  | _, _, _, .dk h _ r, a, q => (List.mem_cons.mp q).elim (fun e vs z => by rw [e, h] at z; cases z) (fun z => r.ntup a z)
  | _, _, _, .dt h _ r, a, q => (List.mem_cons.mp q).elim (fun e vs z => by rw [e, h] at z; cases z) (fun z => r.ntup a z)
  | _, _, _, .ob h _ r, a, q => (List.mem_cons.mp q).elim (fun e vs z => by rw [e, h] at z; cases z) (fun z => r.ntup a z)
theorem OwnL.ntup {K : PySem.W.Frag} {F H : Hp} : ∀ {vs : List V} {ms : List M} {fp : List Addr}, OwnL K F H vs ms fp → ∀ a ∈ fp, ∀ vs, H a ≠ some (.tup vs)
  | _, _, _, .nil, a, q => by cases q
  | _, _, _, .cons h r, a, q => (List.mem_append.mp q).elim (fun z => h.ntup a z) (fun z => r.ntup a z)
end
/-- a row of data, held by an owner -/
theorem OwnL.ims {K : PySem.W.Frag} {F H : Hp} : ∀ {vs : List V} {ds : List D}, RpL K F vs ds → OwnL K F H vs (ds.map M.im) []
  | _, _, .nil => .nil
  | _, _, .cons h r => OwnL.cons (fp := []) (fq := []) (.im h) (OwnL.ims r)
theorem OwnL.of_ims {K : PySem.W.Frag} {F H : Hp} : ∀ {vs : List V} {ds : List D} {fp : List Addr}, OwnL K F H vs (ds.map M.im) fp → RpL K F vs ds ∧ fp = []
  | _, [], _, .nil => ⟨.nil, rfl⟩
  | _, _ :: _, _, .cons h r => by
    cases h with
    | im h =>
      obtain ⟨q, e⟩ := OwnL.of_ims r
      subst e
      exact ⟨.cons h q, rfl⟩
theorem OwnL.length {K : PySem.W.Frag} {F H : Hp} : ∀ {vs : List V} {ms : List M} {fp : List Addr}, OwnL K F H vs ms fp → vs.length = ms.length
  | _, _, _, .nil => rfl
  | _, _, _, .cons _ r => by rw [List.length_cons, List.length_cons, r.length]

/-! ### the state -/
/-- nothing stands there, or a tuple -/
def Nw (H : Hp) (a : Addr) : Prop := ∀ o, H a = some o → ∃ vs, o = HO.tup vs
theorem nw_of {H : Hp} {a : Addr} (h : H a = none) : Nw H a := fun o q => by rw [h] at q; cases q
/-- from one state's heaps to another's: P what may be changed -/
structure Stp (F H : Hp) (P : Addr → Prop) (F' H' : Hp) (P' : Addr → Prop) : Prop where
  ext : Sub F F'
  keep : ∀ a o, H a = some o → ¬ P a → (F a = none ∨ ∃ vs, o = HO.tup vs) → H' a = some o
  live : ∀ a, H' a = none → H a = none
  newF : ∀ a, F' a ≠ none → F a ≠ none ∨ P a ∨ Nw H a
  newP : ∀ a, P' a → P a ∨ H a = none
theorem Stp.refl (F H : Hp) (P : Addr → Prop) : Stp F H P F H P := ⟨Sub.refl F, fun _ _ h _ _ => h, fun _ h => h, fun _ h => .inl h, fun _ h => .inl h⟩
theorem Stp.trans {F H F1 H1 F2 H2 : Hp} {P P1 P2 : Addr → Prop} (a : Stp F H P F1 H1 P1) (b : Stp F1 H1 P1 F2 H2 P2) : Stp F H P F2 H2 P2 where
  ext := a.ext.trans b.ext
  keep := fun x o h n f => b.keep x o (a.keep x o h n f) (fun q => (a.newP x q).elim n fun z => by rw [h] at z; cases z) (by
    rcases f with f | f
    · cases e : F1 x with
      | none => exact .inl rfl
      | some o1 =>
        rcases a.newF x (by rw [e]; intro z; cases z) with z | z | z
        · exact absurd f z
        · exact absurd z n
        · exact .inr (z o h)
    · exact .inr f)
  live := fun x h => a.live x (b.live x h)
  newF := fun x h => by
    rcases b.newF x h with q | q | q
    · exact a.newF x q
    · rcases a.newP x q with z | z
      · exact .inr (.inl z)
      · exact .inr (.inr (nw_of z))
    · by_cases p : P x
      · exact .inr (.inl p)
      · by_cases f : F x = none
        · exact .inr (.inr fun o ho => q o (a.keep x o ho p (.inl f)))
        · exact .inl f
  newP := fun x h => by
    rcases b.newP x h with q | q
    · exact a.newP x q
    · exact .inr (a.live x q)

def Pf (fp : Nat → List Addr) : Addr → Prop := fun a => ∃ i, a ∈ fp i
/-- the slots hold what the environment says; bv: slots that may not be stored to, with what they hold -/
structure SS (K : PySem.W.Frag) (bv : Nat → Option V) (e : Env) (σ : St) (F H : Hp) (fp : Nat → List Addr) : Prop where
  sub : Sub F H
  own : ∀ i m, e[i]? = some (some m) → ∃ v, σ[i]? = some (some v) ∧ Own K F H v m (fp i)
  nil : ∀ i a, a ∈ fp i → ∃ m, e[i]? = some (some m)
  nd : ∀ i, (fp i).Nodup
  dj : ∀ i j a, a ∈ fp i → a ∈ fp j → i = j
  fr : ∀ i a, a ∈ fp i → F a = none
  bor : ∀ i v, bv i = some v → σ[i]? = some (some v)
  len : e.length = σ.length

theorem SS.live {K : PySem.W.Frag} {bv : Nat → Option V} {e : Env} {σ : St} {F H : Hp} {fp : Nat → List Addr} (S : SS K bv e σ F H fp) {i : Nat} {a : Addr} (h : a ∈ fp i) : ∃ o, H a = some o := by
  obtain ⟨m, q⟩ := S.nil i a h
  obtain ⟨v, _, o⟩ := S.own i m q
  exact o.live a h
theorem SS.ntup {K : PySem.W.Frag} {bv : Nat → Option V} {e : Env} {σ : St} {F H : Hp} {fp : Nat → List Addr} (S : SS K bv e σ F H fp) {i : Nat} {a : Addr} (h : a ∈ fp i) (vs : List V) : H a ≠ some (.tup vs) := by
  obtain ⟨m, q⟩ := S.nil i a h
  obtain ⟨v, _, o⟩ := S.own i m q
  exact o.ntup a h vs
/-- other heaps that keep what the slots own -/
theorem SS.heap {K : PySem.W.Frag} {bv : Nat → Option V} {e : Env} {σ : St} {F H F' H' : Hp} {fp : Nat → List Addr} (S : SS K bv e σ F H fp) (s : Sub F F') (sub : Sub F' H') (k : ∀ i a o, a ∈ fp i → H a = some o → H' a = some o) (fr : ∀ i a, a ∈ fp i → F' a = none) : SS K bv e σ F' H' fp where
  sub := sub
  own := fun i m h => by
    obtain ⟨v, q, o⟩ := S.own i m h
    exact ⟨v, q, o.mono s fun a z u hu => k i a u z hu⟩
  nil := S.nil
  nd := S.nd
  dj := S.dj
  fr := fr
  bor := S.bor
  len := S.len
/-- a new thing that nobody will change -/
theorem SS.new {K : PySem.W.Frag} {bv : Nat → Option V} {e : Env} {σ : St} {F H : Hp} {fp : Nat → List Addr} {p : Addr} {o : HO} (S : SS K bv e σ F H fp) (hp : H p = none) : SS K bv e σ (upd F p o) (upd H p o) fp :=
  S.heap (Sub.new (S.sub.non hp)) S.sub.both (fun i a u h q => by
    have ne : a ≠ p := ne_of_none q hp
    rw [upd_ne ne]
    exact q) fun i a h => by
      obtain ⟨u, q⟩ := S.live h
      rw [upd_ne (ne_of_none q hp)]
      exact S.fr i a h
theorem Stp.new {F H : Hp} {P : Addr → Prop} {p : Addr} {o : HO} (s : Sub F H) (hp : H p = none) : Stp F H P (upd F p o) (upd H p o) P where
  ext := Sub.new (s.non hp)
  keep := fun a u h _ _ => by
    rw [upd_ne (ne_of_none h hp)]
    exact h
  live := fun a h => by
    by_cases e : a = p
    · subst e; exact hp
    · rw [upd_ne e] at h; exact h
  newF := fun a h => by
    by_cases e : a = p
    · subst e; exact .inr (.inr (nw_of hp))
    · rw [upd_ne e] at h; exact .inl h
  newP := fun _ h => .inl h

/-! ### the judgements' readings -/
/-- an error's fields in the heap -/
def XRep (K : PySem.W.Frag) (F : Hp) (fs : List (Str × D)) (d : Option Addr) : Prop :=
  (fs = [] ∧ d = none) ∨ ∃ (dx : Addr) (fvs : List (Str × V)), d = some dx ∧ Rd F dx (.xd fvs) ∧ fvs.map (·.1) = fs.map (·.1) ∧ RpL K F (fvs.map (·.2)) (fs.map (·.2))


inductive Flow where
  | nxt
  | brk
  | cnt
  | ret (m : M)

/-- what a result is: from the heaps, the footprints, what may be changed behind it, the layer's result, the denoted one -/
abbrev RG (τ α : Type) := Hp → Hp → (Nat → List Addr) → (Addr → Prop) → τ → α → Prop
/-- a result that nobody owns -/
def smp {τ α : Type} (r : Hp → τ → α → Prop) : RG τ α := fun F _ fp P x a => P = Pf fp ∧ r F x a
def rD (K : PySem.W.Frag) : Hp → V → D → Prop := fun F v d => Rp K F v d
def rL (K : PySem.W.Frag) : Hp → List V → List D → Prop := fun F v d => RpL K F v d
def rB : Hp → Bool → Bool → Prop := fun _ x b => x = b
/-- a result that is owned by whoever takes it -/
def rM (K : PySem.W.Frag) : RG V M := fun F H fp P v m => ∃ fpr : List Addr, P = (fun a => Pf fp a ∨ a ∈ fpr) ∧ Own K F H v m fpr ∧ fpr.Nodup ∧ (∀ a ∈ fpr, ¬ Pf fp a) ∧ ∀ a ∈ fpr, F a = none

section
variable (K : PySem.W.Frag) (W : WX) (bv : Nat → Option V)
def AtG {τ α : Type} (R : RG τ α) (f : EM α) (e : Env) (σ : St) (F H : Hp) (fp : Nat → List Addr) (Q : τ → Hp → Prop) : Prop := match f e with
  | .ok a e' => ∀ x F' H' fp' P', Stp F H (Pf fp) F' H' P' → SS K bv e' σ F' H' fp' → R F' H' fp' P' x a → Q x H'
  | .ex C fs e' => ∀ F' H' fp' dx, Stp F H (Pf fp) F' H' (Pf fp') → SS K bv e' σ F' H' fp' → XRep K F' fs dx → W (.ref C) dx σ H'
  | .no => False
def tG {τ α : Type} (R : RG τ α) (f : EM α) : St → Hp → (τ → Hp → Prop) → Prop := fun σ H Q => ∃ e F fp, SS K bv e σ F H fp ∧ AtG K W bv R f e σ F H fp Q
/-- an expression that gives data; one that gives a thing to own; a test; arguments -/
abbrev tE (f : EM D) : TE := tG K W bv (smp (rD K)) f
abbrev tM (f : EM M) : TE := tG K W bv (rM K) f
abbrev tT (f : EM Bool) : TT := tG K W bv (smp rB) f
abbrev tA (f : EM (List D)) : TA := tG K W bv (smp (rL K)) f
def OutS (o : Out Flow) (F H : Hp) (fp : Nat → List Addr) (D : Ends) : Prop := match o with
  | .ok .nxt e' => ∀ σ' F' H' fp', Stp F H (Pf fp) F' H' (Pf fp') → SS K bv e' σ' F' H' fp' → D.nx σ' H'
  | .ok .brk e' => ∀ σ' F' H' fp', Stp F H (Pf fp) F' H' (Pf fp') → SS K bv e' σ' F' H' fp' → D.bk σ' H'
  | .ok .cnt e' => ∀ σ' F' H' fp', Stp F H (Pf fp) F' H' (Pf fp') → SS K bv e' σ' F' H' fp' → D.ct σ' H'
  | .ok (.ret m) e' => ∀ v σ' F' H' fp' P', Stp F H (Pf fp) F' H' P' → SS K bv e' σ' F' H' fp' → rM K F' H' fp' P' v m → D.rt v H'
  | .ex C fs e' => ∀ σ' F' H' fp' dx, Stp F H (Pf fp) F' H' (Pf fp') → SS K bv e' σ' F' H' fp' → XRep K F' fs dx → W (.ref C) dx σ' H'
  | .no => False
def AtS (g : EM Flow) (e : Env) (σ : St) (F H : Hp) (fp : Nat → List Addr) (D : Ends) : Prop := OutS K W bv (g e) F H fp D
def tS (g : EM Flow) : TS := fun D σ H => ∃ e F fp, SS K bv e σ F H fp ∧ AtS K W bv g e σ F H fp D
end

section
variable {K : PySem.W.Frag} {W : WX} {bv : Nat → Option V} {e : Env} {σ : St} {F H : Hp} {fp : Nat → List Addr} {τ α τ' β : Type}
/-- from further back -/
theorem AtG.back {R : RG τ α} {f : EM α} {F0 H0 : Hp} {fp0 : Nat → List Addr} {Q : τ → Hp → Prop} (s : Stp F0 H0 (Pf fp0) F H (Pf fp)) (h : AtG K W bv R f e σ F0 H0 fp0 Q) : AtG K W bv R f e σ F H fp Q := by
  unfold AtG at h ⊢
  cases q : f e with
  | no => rw [q] at h; exact h
  | ex C fs e' => rw [q] at h; exact fun F' H' fp' dx s' => h F' H' fp' dx (s.trans s')
  | ok a e' => rw [q] at h; exact fun x F' H' fp' P' s' => h x F' H' fp' P' (s.trans s')
/-- two steps -/
theorem AtG.bnd {R : RG τ' β} {r : Hp → τ → α → Prop} {f : EM α} {k : α → EM β} {Q : τ' → Hp → Prop} (h : AtG K W bv R (bnd f k) e σ F H fp Q) :
    AtG K W bv (smp r) f e σ F H fp fun x H1 => ∃ a e1 F1 fp1, f e = .ok a e1 ∧ Stp F H (Pf fp) F1 H1 (Pf fp1) ∧ SS K bv e1 σ F1 H1 fp1 ∧ r F1 x a ∧ AtG K W bv R (k a) e1 σ F1 H1 fp1 Q := by
  unfold AtG FD.bnd at h
  unfold AtG
  cases q : f e with
  | no => rw [q] at h; exact h
  | ex C fs e' => rw [q] at h; exact h
  | ok d e' =>
    rw [q] at h
    intro v F1 H1 fp1 P1 s1 S1 r1
    obtain ⟨rfl, r1⟩ := r1
    refine ⟨d, e', F1, fp1, rfl, s1, S1, r1, AtG.back s1 ?_⟩
    unfold AtG
    exact h
theorem tG.bnd {R : RG τ' β} {r : Hp → τ → α → Prop} {f : EM α} {k : α → EM β} {Q : τ' → Hp → Prop} (h : tG K W bv R (bnd f k) σ H Q) :
    tG K W bv (smp r) f σ H fun x H1 => ∃ a e1 F1 fp1, SS K bv e1 σ F1 H1 fp1 ∧ r F1 x a ∧ AtG K W bv R (k a) e1 σ F1 H1 fp1 Q := by
  obtain ⟨e, F, fp, S, h⟩ := h
  refine ⟨e, F, fp, S, ?_⟩
  have q := AtG.bnd (r := r) h
  unfold AtG at q ⊢
  cases z : f e with
  | no => rw [z] at q; exact q
  | ex C fs e' => rw [z] at q; exact q
  | ok a e' =>
    rw [z] at q
    intro x F' H' fp' P' s' S' r'
    obtain ⟨a, e1, F1, fp1, _, _, S1, r1, h1⟩ := q x F' H' fp' P' s' S' r'
    exact ⟨a, e1, F1, fp1, S1, r1, h1⟩
/-- the same, known where one stands -/
theorem AtG.bnd' {R : RG τ' β} {r : Hp → τ → α → Prop} {f : EM α} {k : α → EM β} {Q : τ' → Hp → Prop} (S : SS K bv e σ F H fp) (h : AtG K W bv R (FD.bnd f k) e σ F H fp Q) :
    tG K W bv (smp r) f σ H fun x H1 => ∃ a e1 F1 fp1, Sub F F1 ∧ SS K bv e1 σ F1 H1 fp1 ∧ r F1 x a ∧ AtG K W bv R (k a) e1 σ F1 H1 fp1 Q := by
  refine ⟨e, F, fp, S, ?_⟩
  have q := AtG.bnd (r := r) h
  unfold AtG at q ⊢
  cases z : f e with
  | no => rw [z] at q; exact q
  | ex C fs e' => rw [z] at q; exact q
  | ok a e' =>
    rw [z] at q
    intro x F' H' fp' P' s' S' r'
    obtain ⟨a, e1, F1, fp1, _, s1, S1, r1, h1⟩ := q x F' H' fp' P' s' S' r'
    exact ⟨a, e1, F1, fp1, s1.ext, S1, r1, h1⟩
/-- the end: data that stands already -/
theorem AtG.here {r : Hp → τ → α → Prop} {a : α} {Q : τ → Hp → Prop} {x : τ} (S : SS K bv e σ F H fp) (h : AtG K W bv (smp r) (FD.ret a) e σ F H fp Q) (hr : r F x a) : Q x H :=
  h x F H fp _ (Stp.refl _ _ _) S ⟨rfl, hr⟩
/-- the end: a new thing that nobody changes -/
theorem AtG.made {r : Hp → τ → α → Prop} {a : α} {Q : τ → Hp → Prop} {x : τ} {p : Addr} {o : HO} (S : SS K bv e σ F H fp) (h : AtG K W bv (smp r) (FD.ret a) e σ F H fp Q) (hp : H p = none) (hr : r (upd F p o) x a) : Q x (upd H p o) :=
  h x _ _ fp _ (Stp.new S.sub hp) (S.new hp) ⟨rfl, hr⟩
theorem AtG.lif {R : RG τ α} {o : Option α} {Q : τ → Hp → Prop} (h : AtG K W bv R (FD.lif o) e σ F H fp Q) : ∃ a, o = some a ∧ AtG K W bv R (FD.ret a) e σ F H fp Q := by
  cases o with
  | none => exact False.elim h
  | some a => exact ⟨a, rfl, h⟩
end
end FD

/-! FD: expressions: names, constants, operators, tests, displays. -/
namespace FD
open PySem L2
abbrev DE (X : Cx) (W : WX) (bv : Nat → Option V) (e : Expr) (f : EM D) : Prop := PE X e (tE X.K W bv f)
abbrev DM (X : Cx) (W : WX) (bv : Nat → Option V) (e : Expr) (f : EM M) : Prop := PE X e (tM X.K W bv f)
abbrev DT (X : Cx) (W : WX) (bv : Nat → Option V) (e : Expr) (f : EM Bool) : Prop := PT X e (tT X.K W bv f)
abbrev DA (X : Cx) (W : WX) (bv : Nat → Option V) (es : List Expr) (f : EM (List D)) : Prop := PA X es (tA X.K W bv f)
abbrev DS (X : Cx) (W : WX) (bv : Nat → Option V) (st : Stmt) (g : EM Flow) : Prop := PS X st (tS X.K W bv g)
abbrev DSs (X : Cx) (W : WX) (bv : Nat → Option V) (sts : List Stmt) (g : EM Flow) : Prop := PSs X sts (tS X.K W bv g)
theorem pe_imp {X : Cx} {e : Expr} {t t' : TE} (h : PE X e t) (w : ∀ σ H Q, t' σ H Q → t σ H Q) : PE X e t' := ⟨fun pins s σ H Q I q => h.run pins s σ H Q I (w σ H Q q)⟩
theorem pt_imp {X : Cx} {e : Expr} {t t' : TT} (h : PT X e t) (w : ∀ σ H Q, t' σ H Q → t σ H Q) : PT X e t' := ⟨fun pins s σ H Q I q => h.run pins s σ H Q I (w σ H Q q)⟩
theorem pw_imp {X : Cx} {e : Expr} {t t' : TT} (h : PW X e t) (w : ∀ σ H Q, t' σ H Q → t σ H Q) : PW X e t' := ⟨fun wh pins s σ H Q I q => h.run wh pins s σ H Q I (w σ H Q q)⟩
theorem pa_imp {X : Cx} {e : List Expr} {t t' : TA} (h : PA X e t) (w : ∀ σ H Q, t' σ H Q → t σ H Q) : PA X e t' := ⟨fun pos pins s σ H Q I q => h.run pos pins s σ H Q I (w σ H Q q)⟩
theorem ps_imp {X : Cx} {e : Stmt} {t t' : TS} (h : PS X e t) (w : ∀ D σ H, t' D σ H → t D σ H) : PS X e t' := ⟨fun pins s σ H D I q => h.run pins s σ H D I (w D σ H q)⟩
theorem pss_imp {X : Cx} {e : List Stmt} {t t' : TS} (h : PSs X e t) (w : ∀ D σ H, t' D σ H → t D σ H) : PSs X e t' := ⟨fun pins s σ H D I q => h.run pins s σ H D I (w D σ H q)⟩

section
variable {K : PySem.W.Frag} {W : WX} {bv : Nat → Option V} {e : Env} {σ : St} {F H : Hp} {fp : Nat → List Addr} {τ α τ' β : Type}
theorem tG.mono {R : RG τ α} {f : EM α} {Q Q' : τ → Hp → Prop} (h : tG K W bv R f σ H Q) (hq : ∀ x H', Q x H' → Q' x H') : tG K W bv R f σ H Q' := by
  obtain ⟨e, F, fp, S, h⟩ := h
  refine ⟨e, F, fp, S, ?_⟩
  unfold AtG at h ⊢
  cases q : f e with
  | no => rw [q] at h; exact h
  | ex C fs e' => rw [q] at h; exact h
  | ok d e' => rw [q] at h; exact fun v F' H' fp' P' s S r => hq v H' (h v F' H' fp' P' s S r)
end

/-! ### constants, names -/
/-- data without an address -/
def flatD : D → Bool
  | .none => true
  | .bool _ => true
  | .int _ => true
  | .str _ => true
  | _ => false
def flatOf : D → V
  | .none => .non
  | .bool b => .bl b
  | .int i => .int i
  | .str x => .str x
  | _ => .non
theorem Rp.flat {K : PySem.W.Frag} {F : Hp} : ∀ {d : D}, flatD d = true → Rp K F (flatOf d) d
  | .none, _ => .non
  | .bool b, _ => .bl b
  | .int i, _ => .int i
  | .str x, _ => .str x
theorem Rp.flat_eq {K : PySem.W.Frag} {F : Hp} {v : V} : ∀ {d : D}, flatD d = true → Rp K F v d → v = flatOf d
  | .none, _, .non => rfl
  | .bool b, _, .bl _ => rfl
  | .int i, _, .int _ => rfl
  | .str x, _, .str _ => rfl

section
variable {X : Cx} {W : WX} {bv : Nat → Option V} {pos : Pos}
theorem de_c {e : Expr} {v : V} {d : D} (h : PE X e (tC v)) (r : ∀ F : Hp, Rp X.K F v d) : DE X W bv e (ret d) :=
  pe_imp h fun σ H Q ⟨e, F, fp, S, q⟩ => AtG.here S q (r F)
theorem de_int {i : Int} {j} : DE X W bv (.Constant (.int i) j pos) (ret (.int i)) := de_c pe_int fun _ => .int i
theorem de_bl {b : Bool} {j} : DE X W bv (.Constant (.bool b) j pos) (ret (.bool b)) := de_c pe_bl fun _ => .bl b
theorem de_non {j} : DE X W bv (.Constant .none j pos) (ret .none) := de_c pe_non fun _ => .non
theorem de_str {x : Str} {j} : DE X W bv (.Constant (.str x) j pos) (ret (.str x)) := de_c pe_str fun _ => .str x
/-- a module's name that holds flat data -/
theorem de_glob {x : Str} {d : D} {u : Value} (hf : flatD d = true) (hm : X.mg x = some u) (r : RelV (flatOf d) u) (hg : Gl X x := by rfl) (hd : (x == ("__debug__" : Str)) = false := by decide) : DE X W bv (.Name x pos) (ret d) :=
  de_c (pe_glob hg hm r hd) fun _ => Rp.flat hf

def imAll : List M → Option (List D)
  | [] => some []
  | .im d :: ms => (imAll ms).map (d :: ·)
  | _ :: _ => none
theorem imAll_im : ∀ ds : List D, imAll (ds.map M.im) = some ds
  | [] => rfl
  | d :: ds => by
    show (imAll (ds.map M.im)).map (d :: ·) = _
    rw [imAll_im ds]
    rfl
theorem of_imAll : ∀ {ms : List M} {ds : List D}, imAll ms = some ds → ms = ds.map M.im
  | [], _, h => by cases h; rfl
  | .im d :: ms, ds, h => by
    simp only [imAll, Option.map_eq_some_iff] at h
    obtain ⟨a, h1, h2⟩ := h
    subst h2
    rw [List.map_cons, ← of_imAll h1]
  | .ls _ :: _, _, h => by cases h
  | .dk _ :: _, _, h => by cases h
  | .dt _ :: _, _, h => by cases h
  | .ob _ _ :: _, _, h => by cases h
def M.toD : M → Option D
  | .im d => some d
  | .ls ms => (imAll ms).map .list
  | .dk kvs => (imAll (kvs.map (·.2))).map fun ds => .dict (((kvs.map (·.1)).zip ds).map fun p => (keyD p.1, p.2))
  | .dt kvs => (imAll (kvs.map (·.2))).map fun ds => .dict (((kvs.map (·.1)).zip ds).map fun p => (.tuple (p.1.map keyD), p.2))
  | .ob _ _ => none
/-- the heap F, but H at some places -/
def ov (H F : Hp) (l : List Addr) : Hp := fun a => if a ∈ l then H a else F a
theorem ov_in {H F : Hp} {l : List Addr} {a : Addr} (h : a ∈ l) : ov H F l a = H a := if_pos h
theorem ov_out {H F : Hp} {l : List Addr} {a : Addr} (h : a ∉ l) : ov H F l a = F a := if_neg h
def put (fp : Nat → List Addr) (i : Nat) (l : List Addr) : Nat → List Addr := fun j => if j = i then l else fp j
theorem put_same {fp : Nat → List Addr} {i : Nat} {l : List Addr} : put fp i l i = l := if_pos rfl
theorem put_ne {fp : Nat → List Addr} {i j : Nat} {l : List Addr} (h : j ≠ i) : put fp i l j = fp j := if_neg h
theorem Sub.ov {F H : Hp} {l : List Addr} (h : ∀ a ∈ l, F a = none) : Sub F (ov H F l) where
  rd := fun a u r => rd_at (ov_out fun z => rd_none (h a z) r) r
  tp := fun a vs q => by
    rw [ov_out fun z => by rw [h a z] at q; cases q]
    exact q
  fz := fun a ob u q => by
    rw [ov_out fun z => by rw [h a z] at q; cases q]
    exact q
theorem Sub.of_ov {F H : Hp} {l : List Addr} (s : Sub F H) : Sub (FD.ov H F l) H where
  rd := fun a u r => by
    by_cases n : a ∈ l
    · exact rd_at (ov_in n).symm r
    · exact s.rd a u (rd_at (ov_out n).symm r)
  tp := fun a vs q => by
    by_cases n : a ∈ l
    · rw [ov_in n] at q
      exact q
    · rw [ov_out n] at q
      exact s.tp a vs q
  fz := fun a ob u q => by
    by_cases n : a ∈ l
    · rw [ov_in n] at q
      exact q
    · rw [ov_out n] at q
      exact s.fz a ob u q
theorem Own.frozen {K : PySem.W.Frag} {F H : Hp} {v : V} {m : M} {d : D} {l : List Addr} (o : Own K F H v m l) (fr : ∀ a ∈ l, F a = none) (hd : m.toD = some d) : Rp K (ov H F l) v d := by
  have sF : Sub F (ov H F l) := Sub.ov fr
  cases o with
  | im r =>
    cases hd
    exact r.mono sF
  | ls h r =>
    rename_i a vs ms fp0
    obtain ⟨ds, h1, rfl⟩ := Option.map_eq_some_iff.mp hd
    rw [of_imAll h1] at r
    exact .lst (.inl (.inl ((ov_in List.mem_cons_self).trans h))) (r.of_ims.1.mono sF)
  | dk h k r =>
    rename_i a kvs kms fp0
    obtain ⟨ds, h1, rfl⟩ := Option.map_eq_some_iff.mp hd
    rw [of_imAll h1] at r
    have hl : (kms.map (·.1)).length = ds.length := by
      have := congrArg List.length (of_imAll h1)
      simpa using this
    refine .dK (kds := (kms.map (·.1)).zip ds) (.inl ((ov_in List.mem_cons_self).trans h)) ?_ ?_
    · rw [List.map_fst_zip (Nat.le_of_eq hl)]
      exact k
    · rw [List.map_snd_zip (Nat.le_of_eq hl.symm)]
      exact r.of_ims.1.mono sF
  | dt h k r =>
    rename_i a kvs kms fp0
    obtain ⟨ds, h1, rfl⟩ := Option.map_eq_some_iff.mp hd
    rw [of_imAll h1] at r
    have hl : (kms.map (·.1)).length = ds.length := by
      have := congrArg List.length (of_imAll h1)
      simpa using this
    refine .dT (kds := (kms.map (·.1)).zip ds) (.inl ((ov_in List.mem_cons_self).trans h)) ?_ ?_
    · rw [List.map_fst_zip (Nat.le_of_eq hl)]
      exact k
    · rw [List.map_snd_zip (Nat.le_of_eq hl.symm)]
      exact r.of_ims.1.mono sF
  | ob h k r => cases hd
/-- slot i holds something else that it owns; the rest is kept -/
theorem SS.put {K : PySem.W.Frag} {bv : Nat → Option V} {e : Env} {σ σ' : St} {F H F' H' : Hp} {fp : Nat → List Addr} {i : Nat} {v : V} {m : M} {l : List Addr} (S : SS K bv e σ F H fp) (sF : Sub F F') (sub : Sub F' H')
    (hi : i < e.length) (hv : σ'[i]? = some (some v)) (ho : ∀ j, j ≠ i → σ'[j]? = σ[j]?) (hl : σ'.length = σ.length) (hb : ∀ u, bv i = some u → u = v) (o : Own K F' H' v m l) (nd : l.Nodup) (fr : ∀ a ∈ l, F' a = none) (dj : ∀ j, j ≠ i → ∀ a ∈ fp j, a ∉ l)
    (k : ∀ j, j ≠ i → ∀ a ∈ fp j, ∀ u, H a = some u → H' a = some u) (frk : ∀ j, j ≠ i → ∀ a ∈ fp j, F' a = none) : SS K bv (e.set i (some m)) σ' F' H' (put fp i l) where
  sub := sub
  own := fun j m' h => by
    by_cases n : j = i
    · subst n
      rw [List.getElem?_set_self hi] at h
      cases h
      rw [put_same]
      exact ⟨v, hv, o⟩
    · rw [List.getElem?_set_ne (Ne.symm n)] at h
      obtain ⟨u, hu, q⟩ := S.own j m' h
      rw [put_ne n, ho j n]
      exact ⟨u, hu, q.mono sF fun a z u => k j n a z u⟩
  nil := fun j a h => by
    by_cases n : j = i
    · subst n
      rw [List.getElem?_set_self hi]
      exact ⟨m, rfl⟩
    · rw [put_ne n] at h
      rw [List.getElem?_set_ne (Ne.symm n)]
      exact S.nil j a h
  nd := fun j => by
    by_cases n : j = i
    · subst n; rw [put_same]; exact nd
    · rw [put_ne n]; exact S.nd j
  dj := fun j z a h1 h2 => by
    by_cases n : j = i
    · rw [n, put_same] at h1
      by_cases n' : z = i
      · exact n.trans n'.symm
      · rw [put_ne n'] at h2
        exact absurd h1 (dj z n' a h2)
    · by_cases n' : z = i
      · rw [n', put_same] at h2
        rw [put_ne n] at h1
        exact absurd h2 (dj j n a h1)
      · rw [put_ne n] at h1
        rw [put_ne n'] at h2
        exact S.dj j z a h1 h2
  fr := fun j a h => by
    by_cases n : j = i
    · subst n; rw [put_same] at h; exact fr a h
    · rw [put_ne n] at h; exact frk j n a h
  bor := fun j u h => by
    by_cases n : j = i
    · subst n; rw [hv, hb u h]
    · rw [ho j n]; exact S.bor j u h
  len := by rw [List.length_set, hl]; exact S.len
/-- what is owned becomes data that nobody changes any more -/
theorem SS.freeze {K : PySem.W.Frag} {bv : Nat → Option V} {e : Env} {σ : St} {F H : Hp} {fp : Nat → List Addr} {i : Nat} {m : M} {d : D} (S : SS K bv e σ F H fp) (he : e[i]? = some (some m)) (hd : m.toD = some d) :
    ∃ F' fp' v, Stp F H (Pf fp) F' H (Pf fp') ∧ SS K bv (e.set i (some (.im d))) σ F' H fp' ∧ σ[i]? = some (some v) ∧ Rp K F' v d := by
  obtain ⟨v, hv, o⟩ := S.own i m he
  have sF : Sub F (ov H F (fp i)) := Sub.ov fun a h => S.fr i a h
  have rp : Rp K (ov H F (fp i)) v d := o.frozen (fun a h => S.fr i a h) hd
  have hi : i < e.length := (List.getElem?_eq_some_iff.mp he).1
  refine ⟨_, FD.put fp i [], v, ⟨sF, fun _ _ h _ _ => h, fun _ h => h, fun a h => ?_, fun a h => ?_⟩, S.put sF S.sub.of_ov hi hv (fun _ _ => rfl) rfl (fun u hu => ?_) (.im rp) List.nodup_nil (fun a h => by cases h) (fun _ _ _ _ h => by cases h) (fun _ _ _ _ _ h => h) (fun j n a h => ?_), hv, rp⟩
  · by_cases n : a ∈ fp i
    · exact .inr (.inl ⟨i, n⟩)
    · rw [ov_out n] at h
      exact .inl h
  · obtain ⟨j, h⟩ := h
    by_cases n : j = i
    · subst n; rw [put_same] at h; cases h
    · rw [put_ne n] at h
      exact .inl ⟨j, h⟩
  · have q := S.bor i u hu
    rw [hv] at q
    cases q
    rfl
  · rw [ov_out fun q => n (S.dj j i a h q)]
    exact S.fr j a h

/-- a name: data, or what was owned, from then on data -/
def var (i : Nat) : EM D := fun e => match e[i]? with
  | some (some (.im d)) => .ok d e
  | some (some m) => match m.toD with
    | some d => .ok d (e.set i (some (.im d)))
    | none => .no
  | _ => .no
theorem var_at {K : PySem.W.Frag} {bv : Nat → Option V} {e : Env} {σ : St} {F H : Hp} {fp : Nat → List Addr} {i : Nat} {Q : VK} (S : SS K bv e σ F H fp) (h : AtG K W bv (smp (rD K)) (var i) e σ F H fp Q) : ∃ v, σ[i]? = some (some v) ∧ Q v H := by
  unfold AtG var at h
  cases q : e[i]? with
  | none => rw [q] at h; exact h.elim
  | some o =>
    rw [q] at h
    cases o with
    | none => exact h.elim
    | some m =>
      cases m with
      | im d =>
        obtain ⟨v, hv, r⟩ := S.own i _ q
        generalize fp i = l at r
        cases r with
        | im r => exact ⟨v, hv, h v F H fp _ (Stp.refl _ _ _) S ⟨rfl, r⟩⟩
      | _ =>
        simp only at h
        split at h
        · rename_i d hd
          split at hd
          · rename_i d' z
            injection hd with h1 h2
            subst h1 h2
            obtain ⟨F', fp', v, s', S', hv, r⟩ := S.freeze q z
            exact ⟨v, hv, h v F' H fp' _ s' S' ⟨rfl, r⟩⟩
          · cases hd
        · rename_i z
          split at z <;> cases z
        · exact h.elim
theorem de_var (i : Nat) {x : Str} (hN : X.N[i]? = some x := by rfl) (hv : Vis X.env.scope x := by first | exact Or.inl rfl | exact Or.inr (Or.inl rfl) | exact Or.inr (Or.inr rfl)) (hd : (x == ("__debug__" : Str)) = false := by decide)
    (hcd : (x == ("__classdict__" : Str)) = false := by decide) : DE X W bv (.Name x pos) (var i) :=
  pe_imp (pe_var hN hv hd hcd) fun σ H Q ⟨e, F, fp, S, q⟩ => var_at S q
end
end FD

/-! FD: operators, comparisons, tests, displays, subscripts. -/
namespace FD
open PySem L2
def bin (g : D → D → Option D) (fa fb : EM D) : EM D := bnd fa fun x => bnd fb fun y => lif (g x y)
def un (g : D → Option D) (fa : EM D) : EM D := bnd fa fun x => lif (g x)

/-- an operation of two values serves one of two data -/
def OpV (K : PySem.W.Frag) (r : R2) (g : D → D → Option D) : Prop := ∀ (W : WX) (bv : Nat → Option V) (e : Env) (σ : St) (F H : Hp) (fp : Nat → List Addr) (x y : V) (d1 d2 : D) (Q : VK),
  SS K bv e σ F H fp → Rp K F x d1 → Rp K F y d2 → AtG K W bv (smp (rD K)) (lif (g d1 d2)) e σ F H fp Q → r x y H Q
def OpD (X : Cx) (f : Value → Value → Sem Value) (g : D → D → Option D) : Prop := ∃ r : R2, OpR X f r ∧ OpV X.K r g
section
variable {K : PySem.W.Frag} {W : WX} {bv : Nat → Option V} {e : Env} {σ : St} {F H : Hp} {fp : Nat → List Addr}
theorem tOp_of {r : R2} {g : D → D → Option D} {fa fb : EM D} {Q : VK} (h : OpV K r g) (t : tE K W bv (bin g fa fb) σ H Q) : tOp r (tE K W bv fa) (tE K W bv fb) σ H Q := by
  refine tG.mono (tG.bnd (r := rD K) t) fun x H1 ⟨d1, e1, F1, fp1, S1, r1, q1⟩ => ?_
  refine tG.mono (AtG.bnd' (r := rD K) S1 q1) fun y H2 ⟨d2, e2, F2, fp2, s2, S2, r2, q2⟩ => ?_
  exact h W bv e2 σ F2 H2 fp2 x y d1 d2 Q S2 (r1.mono s2) r2 q2
end
section
variable {X : Cx} {W : WX} {bv : Nat → Option V} {pos : Pos} {a b c : Expr} {fa fb fc : EM D}
theorem de_bin {op : Operator} {g : D → D → Option D} (ho : OpD X (binaryOp op) g) (ha : DE X W bv a fa) (hb : DE X W bv b fb) : DE X W bv (.BinOp a op b pos) (bin g fa fb) := by
  obtain ⟨r, hr, h⟩ := ho
  exact pe_imp (pe_op hr ha hb) fun σ H Q t => tOp_of h t
theorem de_cmp {op : CmpOp} {g : D → D → Option D} (ho : OpD X (compareOp op) g) (ha : DE X W bv a fa) (hb : DE X W bv b fb) (hm : behindInMarks op b = false := by first | exact nomark _ | rfl) : DE X W bv (.Compare a [op] [b] pos) (bin g fa fb) := by
  obtain ⟨r, hr, h⟩ := ho
  exact pe_imp (pe_cmpR hr ha hb hm) fun σ H Q t => tOp_of h t
/-- the truth of True, False -/
def tst (f : EM D) : EM Bool := bnd f fun d => match d with
  | .bool b => ret b
  | _ => lif none
theorem tst_of {K : PySem.W.Frag} {σ : St} {H : Hp} {Q : Bool → Hp → Prop} (t : tT K W bv (tst fa) σ H Q) : tE K W bv fa σ H fun x H1 => ∃ k, x = .bl k ∧ Q k H1 := by
  refine tG.mono (tG.bnd (r := rD K) t) fun x H1 ⟨d1, e1, F1, fp1, S1, r1, q1⟩ => ?_
  cases r1 with
  | bl k => exact ⟨k, rfl, AtG.here (r := rB) S1 q1 rfl⟩
  | _ => exact q1.elim
theorem dt_val (ha : DE X W bv a fa) (he : ∀ whole, isTrue a X.env whole = (do let v ← whole; standAt a.pos; holding [v] (truthy v)) := by intro _; rfl) : DT X W bv a (tst fa) :=
  pt_imp (pt_val ha he) fun σ H Q t => tst_of t
theorem dt_cmp {op : CmpOp} {g : D → D → Option D} (ho : OpD X (compareOp op) g) (ha : DE X W bv a fa) (hb : DE X W bv b fb) (hm : behindInMarks op b = false := by first | exact nomark _ | rfl) : DT X W bv (.Compare a [op] [b] pos) (tst (bin g fa fb)) := by
  obtain ⟨r, hr, h⟩ := ho
  refine pt_imp (pt_cmpR hr ha hb hm) fun σ H Q t => ?_
  exact tOp_of h (tst_of t)
variable {ta tb : EM Bool}
def andT (ta tb : EM Bool) : EM Bool := bnd ta fun k => if k then tb else ret false
def orT (ta tb : EM Bool) : EM Bool := bnd ta fun k => if k then ret true else tb
def notT (ta : EM Bool) : EM Bool := bnd ta fun k => ret (!k)
abbrev DW (X : Cx) (W : WX) (bv : Nat → Option V) (e : Expr) (f : EM Bool) : Prop := PW X e (tT X.K W bv f)
variable {rest : List Expr}
theorem dw_and1 (h : DT X W bv a ta) : DW X W bv (.BoolOp .And [a] pos) ta := pw_and1 h
theorem dw_or1 (h : DT X W bv a ta) : DW X W bv (.BoolOp .Or [a] pos) ta := pw_or1 h
theorem dw_and (h : DT X W bv a ta) (h2 : DW X W bv (.BoolOp .And (b :: rest) pos) tb) : DW X W bv (.BoolOp .And (a :: b :: rest) pos) (andT ta tb) :=
  pw_imp (pw_and h h2) fun σ H Q t => by
    refine tG.mono (tG.bnd (r := rB) t) fun x H1 ⟨k, e1, F1, fp1, S1, r1, q1⟩ => ?_
    cases (show x = k from r1)
    cases x with
    | true => exact ⟨e1, F1, fp1, S1, q1⟩
    | false => exact AtG.here (r := rB) S1 q1 rfl
theorem dw_or (h : DT X W bv a ta) (h2 : DW X W bv (.BoolOp .Or (b :: rest) pos) tb) : DW X W bv (.BoolOp .Or (a :: b :: rest) pos) (orT ta tb) :=
  pw_imp (pw_or h h2) fun σ H Q t => by
    refine tG.mono (tG.bnd (r := rB) t) fun x H1 ⟨k, e1, F1, fp1, S1, r1, q1⟩ => ?_
    cases (show x = k from r1)
    cases x with
    | true => exact AtG.here (r := rB) S1 q1 rfl
    | false => exact ⟨e1, F1, fp1, S1, q1⟩
theorem dt_w (h : DW X W bv a ta) : DT X W bv a ta := PW.pt h
theorem dt_not (h : DT X W bv a ta) : DT X W bv (.UnaryOp .Not a pos) (notT ta) :=
  pt_imp (pt_not h) fun σ H Q t => by
    refine tG.mono (tG.bnd (r := rB) t) fun x H1 ⟨k, e1, F1, fp1, S1, r1, q1⟩ => ?_
    cases (show x = k from r1)
    exact AtG.here (r := rB) S1 q1 rfl
/-- and, or, not of True, False as values -/
def andV (fa fb : EM D) : EM D := bnd fa fun d => match d with
  | .bool true => fb
  | .bool false => ret (.bool false)
  | _ => lif none
def orV (fa fb : EM D) : EM D := bnd fa fun d => match d with
  | .bool true => ret (.bool true)
  | .bool false => fb
  | _ => lif none
def notV (fa : EM D) : EM D := bnd fa fun d => match d with
  | .bool k => ret (.bool (!k))
  | _ => lif none
theorem de_one {op} (h : DE X W bv a fa) : DE X W bv (.BoolOp op [a] pos) fa := pe_one h
theorem de_and (h : DE X W bv a fa) (h2 : DE X W bv (.BoolOp .And (b :: rest) pos) fb) : DE X W bv (.BoolOp .And (a :: b :: rest) pos) (andV fa fb) :=
  pe_imp (pe_and h h2) fun σ H Q t => by
    refine tG.mono (tG.bnd (r := rD X.K) t) fun x H1 ⟨d, e1, F1, fp1, S1, r1, q1⟩ => ?_
    cases r1 with
    | bl k =>
      cases k with
      | true => exact ⟨true, rfl, e1, F1, fp1, S1, q1⟩
      | false => exact ⟨false, rfl, AtG.here (r := rD X.K) S1 q1 (.bl false)⟩
    | _ => exact q1.elim
theorem de_or (h : DE X W bv a fa) (h2 : DE X W bv (.BoolOp .Or (b :: rest) pos) fb) : DE X W bv (.BoolOp .Or (a :: b :: rest) pos) (orV fa fb) :=
  pe_imp (pe_or h h2) fun σ H Q t => by
    refine tG.mono (tG.bnd (r := rD X.K) t) fun x H1 ⟨d, e1, F1, fp1, S1, r1, q1⟩ => ?_
    cases r1 with
    | bl k =>
      cases k with
      | true => exact ⟨true, rfl, AtG.here (r := rD X.K) S1 q1 (.bl true)⟩
      | false => exact ⟨false, rfl, e1, F1, fp1, S1, q1⟩
    | _ => exact q1.elim
theorem de_not (h : DE X W bv a fa) : DE X W bv (.UnaryOp .Not a pos) (notV fa) :=
  pe_imp (pe_not h) fun σ H Q t => by
    refine tG.mono (tG.bnd (r := rD X.K) t) fun x H1 ⟨d, e1, F1, fp1, S1, r1, q1⟩ => ?_
    cases r1 with
    | bl k => exact ⟨k, rfl, AtG.here (r := rD X.K) S1 q1 (.bl _)⟩
    | _ => exact q1.elim
def ifE (t : EM Bool) (fa fb : EM D) : EM D := bnd t fun k => if k then fa else fb
theorem de_if {c : Expr} (hc : DT X W bv c ta) (ha : DE X W bv a fa) (hb : DE X W bv b fb) : DE X W bv (.IfExp c a b pos) (ifE ta fa fb) :=
  pe_imp (pe_ifExp hc ha hb) fun σ H Q t => by
    refine tG.mono (tG.bnd (r := rB) t) fun x H1 ⟨k, e1, F1, fp1, S1, r1, q1⟩ => ?_
    cases (show x = k from r1)
    cases x with
    | true => exact ⟨e1, F1, fp1, S1, q1⟩
    | false => exact ⟨e1, F1, fp1, S1, q1⟩
/-- x < y < z -/
def chn (g g' : D → D → Option D) (fa fb fc : EM D) : EM D := bnd fa fun x => bnd fb fun y => bnd (lif (g x y)) fun k => match k with
  | .bool true => bnd fc fun z => lif (g' y z)
  | .bool false => ret (.bool false)
  | _ => lif none

/-! ### arguments, displays -/
def nilA : EM (List D) := ret []
def consA (f : EM D) (g : EM (List D)) : EM (List D) := bnd f fun d => bnd g fun ds => ret (d :: ds)
variable {es : List Expr} {fs : EM (List D)}
theorem da_nil : DA X W bv [] nilA := pa_imp pa_nil fun σ H Q ⟨e, F, fp, S, q⟩ => AtG.here (r := rL X.K) S q .nil
theorem da_cons (h : DE X W bv a fa) (hr : DA X W bv es fs) (hs : starEach (a :: es) X.env = (false, eval a X.env) :: starEach es X.env := by rfl) : DA X W bv (a :: es) (consA fa fs) :=
  pa_imp (pa_cons h hr hs) fun σ H Q t => by
    refine tG.mono (tG.bnd (r := rD X.K) t) fun x H1 ⟨d, e1, F1, fp1, S1, r1, q1⟩ => ?_
    refine tG.mono (AtG.bnd' (r := rL X.K) S1 q1) fun xs H2 ⟨ds, e2, F2, fp2, s2, S2, r2, q2⟩ => ?_
    exact AtG.here (r := rL X.K) S2 q2 (.cons (Rp.mono s2 r1) r2)
/-- as long as a thing may be -/
def few (n : Nat) : Bool := decide (n ≤ 1000000)
theorem few_le {n : Nat} (h : few n = true) : n ≤ sizeLine := Nat.le_trans (of_decide_eq_true h) (by decide)
def tupE (fs : EM (List D)) : EM D := bnd fs fun ds => lif (if few ds.length then some (.tuple ds) else none)
def lstE (fs : EM (List D)) : EM D := bnd fs fun ds => lif (if few ds.length then some (.list ds) else none)
theorem de_tup {k} (h : DA X W bv es fs) : DE X W bv (.Tuple es k pos) (tupE fs) :=
  pe_imp (pe_tup h) fun σ H Q t => by
    refine tG.mono (tG.bnd (r := rL X.K) t) fun xs H1 ⟨ds, e1, F1, fp1, S1, r1, q1⟩ => ?_
    obtain ⟨d, hd, q⟩ := q1.lif
    split at hd
    · rename_i hz
      cases hd
      refine ⟨by rw [RpL.length r1]; exact few_le hz, fun p hp => ?_⟩
      exact AtG.made (r := rD X.K) S1 q hp (.tup upd_same (RpL.mono (Sub.new (S1.sub.non hp)) r1))
    · cases hd
theorem de_lst (h : DA X W bv es fs) : DE X W bv (.List es pos) (lstE fs) :=
  pe_imp (pe_lst h) fun σ H Q t => by
    refine tG.mono (tG.bnd (r := rL X.K) t) fun xs H1 ⟨ds, e1, F1, fp1, S1, r1, q1⟩ => ?_
    obtain ⟨d, hd, q⟩ := q1.lif
    split at hd
    · rename_i hz
      cases hd
      refine ⟨by rw [RpL.length r1]; exact few_le hz, fun p hp => ?_⟩
      exact AtG.made (r := rD X.K) S1 q hp (.lst (.inl (.inl upd_same)) (RpL.mono (Sub.new (S1.sub.non hp)) r1))
    · cases hd
end

/-! ### operations on data -/
section
variable {K : PySem.W.Frag} {X : Cx}
/-- a rule on flat results: what is told is flat -/
theorem at_flat {W : WX} {bv : Nat → Option V} {e : Env} {σ : St} {F H : Hp} {fp : Nat → List Addr} {d : D} {o : Option D} {Q : VK} (S : SS K bv e σ F H fp) (h : AtG K W bv (smp (rD K)) (lif o) e σ F H fp Q) (ho : o = some d) (hf : flatD d = true) : Q (flatOf d) H := by
  subst ho
  exact AtG.here (r := rD K) S h (Rp.flat hf)
def intOp (C : Int → Int → Bool) (g : Int → Int → Int) : D → D → Option D
  | .int i, .int j => if C i j then some (.int (g i j)) else none
  | _, _ => none
theorem opv_int {C : Int → Int → Bool} {g : Int → Int → Int} {P : Int → Int → Prop} (h : ∀ i j, C i j = true → P i j) : OpV K (rI P fun i j => .int (g i j)) (intOp C g) := by
  intro W bv e σ F H fp x y d1 d2 Q S r1 r2 q
  cases r1 <;> cases r2 <;> first | exact q.elim | skip
  rename_i i j
  by_cases c : C i j = true
  · exact ⟨i, j, rfl, rfl, h i j c, at_flat (d := .int (g i j)) S q (by simp only [intOp]; rw [if_pos c]) rfl⟩
  · simp only [intOp] at q
    rw [if_neg c] at q
    exact q.elim
def allI : Int → Int → Bool := fun _ _ => true
theorem opv_int0 {g : Int → Int → Int} : OpV K (rI0 fun i j => .int (g i j)) (intOp allI g) := by
  intro W bv e σ F H fp x y d1 d2 Q S r1 r2 q
  cases r1 <;> cases r2 <;> first | exact q.elim | skip
  rename_i i j
  exact ⟨i, j, rfl, rfl, at_flat S q rfl rfl⟩
def intCmp (g : Int → Int → Bool) : D → D → Option D
  | .int i, .int j => some (.bool (g i j))
  | _, _ => none
theorem opv_cmp {g : Int → Int → Bool} : OpV K (rI0 fun i j => .bl (g i j)) (intCmp g) := by
  intro W bv e σ F H fp x y d1 d2 Q S r1 r2 q
  cases r1 <;> cases r2 <;> first | exact q.elim | skip
  rename_i i j
  exact ⟨i, j, rfl, rfl, at_flat S q rfl rfl⟩
def subD : D → D → Option D := intOp allI (· - ·)
def modD : D → D → Option D := intOp (fun _ j => decide (0 < j)) (· % ·)
def fdvD : D → D → Option D := intOp (fun _ j => decide (0 < j) && decide (j < 1073741824)) (· / ·)
def powD : D → D → Option D := intOp (fun i j => decide (0 ≤ j) && decide (j ≤ 1000) && decide (i.natAbs < 2 ^ 64)) (fun i j => i ^ j.toNat)
def ltI : D → D → Option D := intCmp fun i j => decide (i < j)
def leI : D → D → Option D := intCmp fun i j => decide (i ≤ j)
def gtI : D → D → Option D := intCmp fun i j => decide (j < i)
def geI : D → D → Option D := intCmp fun i j => decide (j ≤ i)
theorem od_sub : OpD X (binaryOp .Sub) subD := ⟨_, op_sub, opv_int0⟩
theorem od_mod : OpD X (binaryOp .Mod) modD := ⟨_, op_mod, opv_int fun _ _ h => of_decide_eq_true h⟩
theorem od_fdv : OpD X (binaryOp .FloorDiv) fdvD := ⟨_, op_fdiv, opv_int fun _ _ h => by simpa [CDiv] using h⟩
theorem od_pow : OpD X (binaryOp .Pow) powD := ⟨_, op_pow, opv_int fun i j h => by
  simp only [Bool.and_eq_true, decide_eq_true_eq] at h
  exact ⟨h.1.1, by omega, h.2⟩⟩
theorem od_lt : OpD X (compareOp .Lt) ltI := ⟨_, op_lt, opv_cmp⟩
theorem od_le : OpD X (compareOp .LtE) leI := ⟨_, op_le, opv_cmp⟩
theorem od_gt : OpD X (compareOp .Gt) gtI := ⟨_, op_gt, opv_cmp⟩
theorem od_ge : OpD X (compareOp .GtE) geI := ⟨_, op_ge, opv_cmp⟩
end
end FD

/-! FD: == and in, + and *, is, subscripts, slices, chains. -/
namespace FD
open PySem L2
section
variable {K : PySem.W.Frag} {X : Cx} {W : WX} {bv : Nat → Option V} {pos : Pos} {a b c : Expr} {fa fb fc : EM D}
/-! ### data without dicts -/
mutual
theorem Rp.dp {F H : Hp} (s : Sub F H) : ∀ {v : V} {d : D}, d.canLay0 = true → Rp K F v d → Dp K H v d
  | _, _, _, .non => .non
  | _, _, _, .bl b => .bl b
  | _, _, _, .int i => .int i
  | _, _, _, .str x => .str x
  | _, _, h, .lst q r => .lst (s.l q) (RpL.dp s (by simpa [PyData.canLay0] using h) r)
  | _, _, h, .tup q r => .tup (s.t q) (RpL.dp s (by simpa [PyData.canLay0] using h) r)
  | _, _, h, .dK _ _ _ => by simp [PyData.canLay0] at h
  | _, _, h, .dT _ _ _ => by simp [PyData.canLay0] at h
theorem RpL.dp {F H : Hp} (s : Sub F H) : ∀ {vs : List V} {ds : List D}, PyData.canLayAll0 ds = true → RpL K F vs ds → DpAll K H vs ds
  | _, _, _, .nil => .nil
  | _, _, h, .cons q r => by
    simp only [PyData.canLayAll0, Bool.and_eq_true] at h
    exact .cons (Rp.dp s h.1 q) (RpL.dp s h.2 r)
end
theorem lay_of {d : D} (h : SeqAt.shaped d = true) : d.canLay0 = true := SeqAt.canLay_of_shaped h

/-! ### == -/
def scalD (d1 d2 : D) : Bool := flatD d1 && flatD d2 && scal (flatOf d1) (flatOf d2)
def eqOk (d1 d2 : D) : Bool := scalD d1 d2 || (SeqAt.shaped d1 && SeqAt.shaped d2)
def eqD (d1 d2 : D) : Option D := if eqOk d1 d2 then some (.bool (PyData.eqv d1 d2)) else none
def neD (d1 d2 : D) : Option D := if eqOk d1 d2 then some (.bool (!PyData.eqv d1 d2)) else none
theorem scal_eqv : ∀ {d1 d2 : D}, scalD d1 d2 = true → decide (flatOf d1 = flatOf d2) = PyData.eqv d1 d2 := by
  intro d1 d2 h
  cases d1 <;> cases d2 <;> first | (simp [scalD, flatD] at h; done) | (simp [scalD, flatD, flatOf, scal] at h; done) | (simp [flatOf, PyData.eqv]; done) | skip
  · rename_i a b
    cases a <;> cases b <;> simp [flatOf, PyData.eqv]
  · rename_i a b
    simp only [flatOf, PyData.eqv, V.int.injEq]
    exact (Bool.beq_eq_decide_eq a b).symm
  · rename_i a b
    simp only [flatOf, PyData.eqv, V.str.injEq]
    exact (Bool.beq_eq_decide_eq a b).symm
theorem opv_eq : OpV K (fun x y H Q => rEq x y H Q ∨ rEqD K x y H Q) eqD := by
  intro W bv e σ F H fp x y d1 d2 Q S r1 r2 q
  unfold eqD eqOk at q
  by_cases h1 : scalD d1 d2 = true
  · rw [h1, Bool.true_or, if_pos rfl] at q
    have z := scal_eqv h1
    simp only [scalD, Bool.and_eq_true] at h1
    refine .inl ?_
    rw [r1.flat_eq h1.1.1, r2.flat_eq h1.1.2]
    refine ⟨h1.2, ?_⟩
    rw [z]
    exact AtG.here (r := rD K) S q (.bl _)
  · rw [Bool.not_eq_true] at h1
    rw [h1, Bool.false_or] at q
    by_cases h2 : (SeqAt.shaped d1 && SeqAt.shaped d2) = true
    · rw [if_pos h2] at q
      rw [Bool.and_eq_true] at h2
      exact .inr ⟨d1, d2, r1.dp S.sub (lay_of h2.1), r2.dp S.sub (lay_of h2.2), h2.1, h2.2, AtG.here (r := rD K) S q (.bl _)⟩
    · rw [if_neg h2] at q
      exact q.elim
theorem opv_ne : OpV K (fun x y H Q => rNe x y H Q ∨ rNeD K x y H Q) neD := by
  intro W bv e σ F H fp x y d1 d2 Q S r1 r2 q
  unfold neD eqOk at q
  by_cases h1 : scalD d1 d2 = true
  · rw [h1, Bool.true_or, if_pos rfl] at q
    have z := scal_eqv h1
    simp only [scalD, Bool.and_eq_true] at h1
    refine .inl ?_
    rw [r1.flat_eq h1.1.1, r2.flat_eq h1.1.2]
    refine ⟨h1.2, ?_⟩
    rw [z]
    exact AtG.here (r := rD K) S q (.bl _)
  · rw [Bool.not_eq_true] at h1
    rw [h1, Bool.false_or] at q
    by_cases h2 : (SeqAt.shaped d1 && SeqAt.shaped d2) = true
    · rw [if_pos h2] at q
      rw [Bool.and_eq_true] at h2
      exact .inr ⟨d1, d2, r1.dp S.sub (lay_of h2.1), r2.dp S.sub (lay_of h2.2), h2.1, h2.2, AtG.here (r := rD K) S q (.bl _)⟩
    · rw [if_neg h2] at q
      exact q.elim
theorem od_eq {k : Nat} (hr : Room k X.A) : OpD X (compareOp .Eq) eqD := ⟨_, OpR.or op_eq (op_eqD hr.units), opv_eq⟩
theorem od_ne {k : Nat} (hr : Room k X.A) : OpD X (compareOp .NotEq) neD := ⟨_, OpR.or op_ne (op_neD hr.units), opv_ne⟩

/-! ### is None, is True -/
def isD : D → D → Option D
  | d, .none => some (.bool (match d with | .none => true | _ => false))
  | .bool a, .bool b => some (.bool (decide (a = b)))
  | _, _ => none
def isnD : D → D → Option D
  | d, .none => some (.bool (match d with | .none => false | _ => true))
  | .bool a, .bool b => some (.bool (!decide (a = b)))
  | _, _ => none
theorem od_is : OpD X (compareOp .Is) isD := by
  refine ⟨_, OpR.or op_isN op_isBl, ?_⟩
  intro W bv e σ F H fp x y d1 d2 Q S r1 r2 q
  cases r2 with
  | non =>
    refine .inl ⟨rfl, ?_⟩
    cases r1 <;> exact AtG.here (r := rD X.K) S q (.bl _)
  | bl b =>
    cases r1 with
    | bl a => exact .inr ⟨a, b, rfl, rfl, AtG.here (r := rD X.K) S q (.bl _)⟩
    | _ => exact q.elim
  | _ => cases r1 <;> exact q.elim
theorem od_isn : OpD X (compareOp .IsNot) isnD := by
  refine ⟨_, OpR.or op_notN op_notBl, ?_⟩
  intro W bv e σ F H fp x y d1 d2 Q S r1 r2 q
  cases r2 with
  | non =>
    refine .inl ⟨rfl, ?_⟩
    cases r1 <;> exact AtG.here (r := rD X.K) S q (.bl _)
  | bl b =>
    cases r1 with
    | bl a => exact .inr ⟨a, b, rfl, rfl, AtG.here (r := rD X.K) S q (.bl _)⟩
    | _ => exact q.elim
  | _ => cases r1 <;> exact q.elim

/-! ### in -/
def flatAll (ds : List D) : Bool := ds.all flatD
theorem RpL.flat_eq {F : Hp} : ∀ {vs : List V} {ds : List D}, flatAll ds = true → RpL K F vs ds → vs = ds.map flatOf
  | _, _, _, .nil => rfl
  | _, _, h, .cons q r => by
    simp only [flatAll, List.all_cons, Bool.and_eq_true] at h
    rw [List.map_cons, q.flat_eq h.1, RpL.flat_eq h.2 r]
theorem flat_flatV : ∀ {d : D}, flatD d = true → flatV (flatOf d) = true := by
  intro d h
  cases d <;> first | rfl | cases h
theorem flat_eqV : ∀ {d1 d2 : D}, flatD d1 = true → flatD d2 = true → eqV (flatOf d1) (flatOf d2) = PyData.eqv d1 d2 := by
  intro d1 d2 h1 h2
  cases d1 <;> first | (cases h1; done) | (cases d2 <;> first | (cases h2; done) | simp [flatOf, eqV, PyData.eqv])
theorem flat_inV {d : D} : ∀ {ds : List D}, flatD d = true → flatAll ds = true → inV (flatOf d) (ds.map flatOf) = ds.any (fun z => PyData.eqv z d)
  | [], _, _ => rfl
  | x :: ds, h, hs => by
    simp only [flatAll, List.all_cons, Bool.and_eq_true] at hs
    have ih := flat_inV (ds := ds) h hs.2
    unfold inV at ih ⊢
    rw [List.map_cons, List.any_cons, List.any_cons, ih, flat_eqV hs.1 h]
/-- whether one is among some -/
def memD (d : D) (ds : List D) : Bool := ds.any fun z => PyData.eqv z d
def inOk (d : D) (ds : List D) : Bool := (flatD d && flatAll ds) || (SeqAt.shaped d && SeqAt.shaped (.list ds))
def inTOk (d : D) (ds : List D) : Bool := flatD d && flatAll ds
/-- a text in a text -/
def subS (x y : Str) : Bool := !(Builtin.Str.occurrences y x 0 y.length 1).isEmpty
def inB (d : D) : D → Option Bool
  | .list ds => if inOk d ds then some (memD d ds) else none
  | .tuple ds => if inTOk d ds then some (memD d ds) else none
  | .str y => match d with
    | .str x => some (subS x y)
    | _ => none
  | _ => none
def inD (d1 d2 : D) : Option D := (inB d1 d2).map .bool
def ninD (d1 d2 : D) : Option D := (inB d1 d2).map fun k => .bool (!k)
theorem all_flatV : ∀ {ds : List D}, flatAll ds = true → (ds.map flatOf).all flatV = true
  | [], _ => rfl
  | x :: ds, h => by
    simp only [flatAll, List.all_cons, Bool.and_eq_true] at h
    rw [List.map_cons, List.all_cons, flat_flatV h.1, all_flatV h.2]
    rfl
theorem od_in {k : Nat} (hr : Room k X.A) : OpD X (compareOp .In) inD := by
  have hu : X.A.units + 65 < cLine := by have := hr.un; omega
  refine ⟨_, OpR.or op_in_seq (OpR.or (op_inD hu) op_in_str), ?_⟩
  intro W bv e σ F H fp x y d1 d2 Q S r1 r2 q
  obtain ⟨d, hd, q⟩ := q.lif
  obtain ⟨k, hk, rfl⟩ := Option.map_eq_some_iff.mp hd
  cases r2 with
  | lst h r =>
    rename_i p vs ds
    simp only [inB] at hk
    split at hk
    · rename_i z
      cases hk
      unfold inOk at z
      by_cases z1 : (flatD d1 && flatAll ds) = true
      · rw [Bool.and_eq_true] at z1
        rw [r1.flat_eq z1.1]
        have e1 := r.flat_eq z1.2
        subst e1
        refine .inl ⟨p, _, rfl, .inl (S.sub.l h), flat_flatV z1.1, all_flatV z1.2, ?_⟩
        rw [if_neg Bool.false_ne_true, flat_inV z1.1 z1.2]
        exact AtG.here (r := rD X.K) S q (.bl _)
      · rw [Bool.not_eq_true] at z1
        rw [z1, Bool.false_or, Bool.and_eq_true] at z
        have r2' : Rp X.K F (.ref p) (.list ds) := .lst h r
        exact .inr (.inl ⟨d1, ds, r1.dp S.sub (lay_of z.1), r2'.dp S.sub (lay_of z.2), z.1, z.2, AtG.here (r := rD X.K) S q (.bl _)⟩)
    · cases hk
  | tup h r =>
    rename_i p vs ds
    simp only [inB] at hk
    split at hk
    · rename_i z1
      cases hk
      unfold inTOk at z1
      rw [Bool.and_eq_true] at z1
      rw [r1.flat_eq z1.1]
      have e1 := r.flat_eq z1.2
      subst e1
      refine .inl ⟨p, _, rfl, .inr (S.sub.t h), flat_flatV z1.1, all_flatV z1.2, ?_⟩
      rw [if_neg Bool.false_ne_true, flat_inV z1.1 z1.2]
      exact AtG.here (r := rD X.K) S q (.bl _)
    · cases hk
  | str y =>
    cases r1 with
    | str x =>
      cases hk
      exact .inr (.inr ⟨x, y, rfl, rfl, AtG.here (r := rD X.K) S q (.bl _)⟩)
    | _ => cases hk
  | _ => cases hk
theorem od_nin {k : Nat} (hr : Room k X.A) : OpD X (compareOp .NotIn) ninD := by
  have hu : X.A.units + 65 < cLine := by have := hr.un; omega
  refine ⟨_, OpR.or op_notIn_seq (OpR.or (op_notInD hu) op_notin_str), ?_⟩
  intro W bv e σ F H fp x y d1 d2 Q S r1 r2 q
  obtain ⟨d, hd, q⟩ := q.lif
  obtain ⟨k, hk, rfl⟩ := Option.map_eq_some_iff.mp hd
  cases r2 with
  | lst h r =>
    rename_i p vs ds
    simp only [inB] at hk
    split at hk
    · rename_i z
      cases hk
      unfold inOk at z
      by_cases z1 : (flatD d1 && flatAll ds) = true
      · rw [Bool.and_eq_true] at z1
        rw [r1.flat_eq z1.1]
        have e1 := r.flat_eq z1.2
        subst e1
        refine .inl ⟨p, _, rfl, .inl (S.sub.l h), flat_flatV z1.1, all_flatV z1.2, ?_⟩
        rw [if_pos rfl, flat_inV z1.1 z1.2]
        exact AtG.here (r := rD X.K) S q (.bl _)
      · rw [Bool.not_eq_true] at z1
        rw [z1, Bool.false_or, Bool.and_eq_true] at z
        have r2' : Rp X.K F (.ref p) (.list ds) := .lst h r
        exact .inr (.inl ⟨d1, ds, r1.dp S.sub (lay_of z.1), r2'.dp S.sub (lay_of z.2), z.1, z.2, AtG.here (r := rD X.K) S q (.bl _)⟩)
    · cases hk
  | tup h r =>
    rename_i p vs ds
    simp only [inB] at hk
    split at hk
    · rename_i z1
      cases hk
      unfold inTOk at z1
      rw [Bool.and_eq_true] at z1
      rw [r1.flat_eq z1.1]
      have e1 := r.flat_eq z1.2
      subst e1
      refine .inl ⟨p, _, rfl, .inr (S.sub.t h), flat_flatV z1.1, all_flatV z1.2, ?_⟩
      rw [if_pos rfl, flat_inV z1.1 z1.2]
      exact AtG.here (r := rD X.K) S q (.bl _)
    · cases hk
  | str y =>
    cases r1 with
    | str x =>
      cases hk
      exact .inr (.inr ⟨x, y, rfl, rfl, AtG.here (r := rD X.K) S q (.bl _)⟩)
    | _ => cases hk
  | _ => cases hk

/-! ### + -/
def rCatL (K : PySem.W.Frag) : R2 := fun x y H Q => ∃ l b xs zs, x = .ref l ∧ y = .ref b ∧ SqL K H l xs ∧ SqL K H b zs ∧ xs.length + zs.length ≤ sizeLine ∧ ∀ p, H p = none → Q (.ref p) (upd H p (.lst (xs ++ zs)))
theorem op_catL : OpR X (binaryOp .Add) (rCatL X.K) := by
  intro pins s σ H x y v u Q I rx ry h
  obtain ⟨l, b, xs, zs, rfl, rfl, hH, hB, hz, q⟩ := h
  cases rx
  cases ry
  obtain ⟨its, r, ⟨⟨c1, dd, da, sl⟩, n, ho, hc, _, hd⟩, _⟩ := I.list hH
  obtain ⟨its2, r2, ⟨⟨c2, dd2, da2, sl2⟩, n2, ho2, hc2, _, hd2⟩, _⟩ := I.list hB
  simp only at hc hd hc2 hd2
  subst hc hd hc2 hd2
  have hl := r.length
  have hl2 := r2.length
  refine concat_meets ⟨_, ho, rfl⟩ ⟨_, ho2, rfl⟩ noFill_list_add seq_list_add PySem.F.slot_list_add PySem.F.entry_list_add (PySem.F.args_list_add_2 _ _)
    (PyProof.Rows.list_addW l b its.toArray its2.toArray n n2 dd dd2 sl sl2 (by rw [List.size_toArray, List.size_toArray]; omega)) ⟨ho, ho2, ?_⟩
  have ea : its.toArray ++ its2.toArray = (its ++ its2).toArray := by simp
  rw [ea]
  exact ⟨.ref _, _, I.lnew (t' := s.toks) (r.append r2) (by rw [List.length_append]; omega), rfl, q _ I.fresh⟩
def addD : D → D → Option D
  | .int i, .int j => some (.int (i + j))
  | .str x, .str y => if few (x.length + y.length) then some (.str (x ++ y)) else none
  | .list xs, .list ys => if few (xs.length + ys.length) then some (.list (xs ++ ys)) else none
  | .tuple xs, .tuple ys => if few (xs.length + ys.length) then some (.tuple (xs ++ ys)) else none
  | _, _ => none
theorem od_add : OpD X (binaryOp .Add) addD := by
  refine ⟨_, OpR.or op_add (OpR.or op_add_str (OpR.or op_catL op_catA)), ?_⟩
  intro W bv e σ F H fp x y d1 d2 Q S r1 r2 q
  cases r1 <;> cases r2 <;> first | exact q.elim | skip
  · exact .inl ⟨_, _, rfl, rfl, AtG.here (r := rD X.K) S q (.int _)⟩
  · simp only [addD] at q
    split at q
    · rename_i z
      exact .inr (.inl ⟨_, _, rfl, rfl, few_le z, AtG.here (r := rD X.K) S q (.str _)⟩)
    · exact q.elim
  · rename_i a1 vs1 ds1 h1 g1 a2 vs2 ds2 h2 g2
    simp only [addD] at q
    split at q
    · rename_i z
      refine .inr (.inr (.inl ⟨_, _, _, _, rfl, rfl, S.sub.l h1, S.sub.l h2, by rw [g1.length, g2.length]; exact few_le z, fun p hp => ?_⟩))
      exact AtG.made (r := rD X.K) S q hp (.lst (.inl (.inl upd_same)) (RpL.mono (Sub.new (S.sub.non hp)) (g1.append g2)))
    · exact q.elim
  · rename_i a1 vs1 ds1 h1 g1 a2 vs2 ds2 h2 g2
    simp only [addD] at q
    split at q
    · rename_i z
      refine .inr (.inr (.inr ⟨_, _, _, _, rfl, rfl, S.sub.t h1, S.sub.t h2, by rw [g1.length, g2.length]; exact few_le z, fun e1 => ?_, fun _ e2 => ?_, fun _ _ p hp => ?_⟩))
      · subst e1
        cases g1
        exact AtG.here (r := rD X.K) S q (.tup h2 (by simpa using g2))
      · subst e2
        cases g2
        exact AtG.here (r := rD X.K) S q (.tup h1 (by simpa using g1))
      · exact AtG.made (r := rD X.K) S q hp (.tup upd_same (RpL.mono (Sub.new (S.sub.non hp)) (g1.append g2)))
    · exact q.elim
/-! ### int * int -/
def mulI : D → D → Option D := intOp (fun i j => (decide (-(2 ^ 64) < i) && decide (i < 2 ^ 64)) || (decide (-(2 ^ 64) < j) && decide (j < 2 ^ 64))) (· * ·)
theorem od_mulI : OpD X (binaryOp .Mult) mulI := ⟨_, op_mul, opv_int fun i j h => by
  simp only [Bool.or_eq_true, Bool.and_eq_true, decide_eq_true_eq] at h
  exact h⟩
/-! ### -x -/
def negD : D → Option D
  | .int i => some (.int (-i))
  | _ => none
theorem de_neg (ha : DE X W bv a fa) : DE X W bv (.UnaryOp .USub a pos) (un negD fa) :=
  pe_imp (pe_un un_neg ha) fun σ H Q t => by
    refine tG.mono (tG.bnd (r := rD X.K) t) fun x H1 ⟨d, e1, F1, fp1, S1, r1, q1⟩ => ?_
    cases r1 with
    | int i => exact ⟨i, rfl, AtG.here (r := rD X.K) S1 q1 (.int _)⟩
    | _ => exact q1.elim
/-! ### chains -/
theorem tChain_of {K : PySem.W.Frag} {σ : L2.St} {H : Hp} {r r' : R2} {g g' : D → D → Option D} {Q : VK} (h : OpV K r g) (h' : OpV K r' g') (hg : ∀ x y d, g x y = some d → ∃ k, d = .bool k)
    (t : tE K W bv (chn g g' fa fb fc) σ H Q) : tChain r r' (tE K W bv fa) (tE K W bv fb) (tE K W bv fc) σ H Q := by
  refine tG.mono (tG.bnd (r := rD K) t) fun x H1 ⟨d1, e1, F1, fp1, S1, r1, q1⟩ => ?_
  refine tG.mono (AtG.bnd' (r := rD K) S1 q1) fun y H2 ⟨d2, e2, F2, fp2, s2, S2, r2, q2⟩ => ?_
  refine h W bv e2 σ F2 H2 fp2 x y d1 d2 _ S2 (r1.mono s2) r2 ?_
  cases z : g d1 d2 with
  | none => rw [z] at q2; exact q2.elim
  | some d =>
    obtain ⟨k, rfl⟩ := hg _ _ _ z
    rw [z] at q2
    intro v F3 H3 fp3 P3 s3 S3 r3
    obtain ⟨rfl, r3⟩ := r3
    cases r3
    refine ⟨k, rfl, ?_⟩
    cases k with
    | true =>
      have q3 : AtG K W bv (smp (rD K)) (bnd fc fun z => lif (g' d2 z)) e2 σ F2 H2 fp2 Q := q2
      rw [if_pos rfl]
      refine tG.mono (AtG.bnd' (r := rD K) S3 (AtG.back s3 q3)) fun w H4 ⟨d4, e4, F4, fp4, s4, S4, r4, q4⟩ => ?_
      exact h' W bv e4 σ F4 H4 fp4 y w d2 d4 Q S4 ((r2.mono s3.ext).mono s4) r4 q4
    | false =>
      have q3 : AtG K W bv (smp (rD K)) (ret (.bool false)) e2 σ F2 H2 fp2 Q := q2
      rw [if_neg Bool.false_ne_true]
      exact AtG.here (r := rD K) S3 (AtG.back s3 q3) (.bl _)
theorem de_chain {op op' : CmpOp} {g g' : Int → Int → Bool} (ho : OpD X (compareOp op) (intCmp g)) (ho' : OpD X (compareOp op') (intCmp g')) (ha : DE X W bv a fa) (hb : DE X W bv b fb) (hc : DE X W bv c fc)
    (hm : lastMarks [op, op'] [b, c] = false := by with_unfolding_all rfl) : DE X W bv (.Compare a [op, op'] [b, c] pos) (chn (intCmp g) (intCmp g') fa fb fc) := by
  obtain ⟨r, hr, h⟩ := ho
  obtain ⟨r', hr', h'⟩ := ho'
  refine pe_imp (pe_chain hr hr' ha hb hc hm) fun σ H Q t => tChain_of h h' (fun x y d z => ?_) t
  unfold intCmp at z
  split at z
  · cases z; exact ⟨_, rfl⟩
  · cases z
theorem dt_chain {op op' : CmpOp} {g g' : Int → Int → Bool} (ho : OpD X (compareOp op) (intCmp g)) (ho' : OpD X (compareOp op') (intCmp g')) (ha : DE X W bv a fa) (hb : DE X W bv b fb) (hc : DE X W bv c fc)
    (hm : lastMarks [op, op'] [b, c] = false := by with_unfolding_all rfl) : DT X W bv (.Compare a [op, op'] [b, c] pos) (tst (chn (intCmp g) (intCmp g') fa fb fc)) := by
  obtain ⟨r, hr, h⟩ := ho
  obtain ⟨r', hr', h'⟩ := ho'
  refine pt_imp (pt_chain hr hr' ha hb hc hm) fun σ H Q t => tChain_of h h' (fun x y d z => ?_) (tst_of t)
  unfold intCmp at z
  split at z
  · cases z; exact ⟨_, rfl⟩
  · cases z
/-! ### x[i] -/
def ixD : D → D → Option D
  | .list ds, .int i => atI ds i
  | .tuple ds, .int i => atI ds i
  | .str z, .int i => if few z.length then (atI z.cps.toList i).map fun c => .str ⟨#[c]⟩ else none
  | _, _ => none
theorem RpL.atI {F : Hp} {vs : List V} {ds : List D} {i : Int} {d : D} (r : RpL K F vs ds) (h : L2.atI ds i = some d) : ∃ v, L2.atI vs i = some v ∧ Rp K F v d := by
  unfold L2.atI at h ⊢
  rw [r.length]
  cases q : ixN ds.length i with
  | none => rw [q] at h; cases h
  | some j =>
    rw [q] at h
    obtain ⟨v, h1, h2⟩ := r.get (i := j) (d := d) h
    exact ⟨v, h1, h2⟩
theorem opv_ix : OpV K (rIx K) ixD := by
  intro W bv e σ F H fp x y d1 d2 Q S r1 r2 q
  obtain ⟨d, hd, q'⟩ := q.lif
  clear q
  cases r1 <;> cases r2 <;> first | (cases hd; done) | skip
  · rename_i z i
    simp only [ixD] at hd
    split at hd
    · rename_i z1
      obtain ⟨c, hc, rfl⟩ := Option.map_eq_some_iff.mp hd
      exact .inr (.inr ⟨z, i, c, rfl, rfl, few_le z1, hc, AtG.here (r := rD K) S q' (.str _)⟩)
    · cases hd
  · rename_i a vs ds h r i
    obtain ⟨v, h1, h2⟩ := r.atI hd
    exact .inl ⟨_, _, _, _, rfl, rfl, S.sub.l h, h1, AtG.here (r := rD K) S q' h2⟩
  · rename_i a vs ds h r i
    obtain ⟨v, h1, h2⟩ := r.atI hd
    exact .inr (.inl ⟨_, _, _, _, rfl, rfl, S.sub.t h, h1, AtG.here (r := rD K) S q' h2⟩)
theorem de_ix (ha : DE X W bv a fa) (hb : DE X W bv b fb) (hs : PlainIx b := by exact fun _ _ => rfl) : DE X W bv (.Subscript a b pos) (bin ixD fa fb) :=
  pe_imp (pe_ix ix_seq ha hb hs) fun σ H Q t => tOp_of opv_ix t
/-! ### x[i:j] -/
abbrev DO (X : Cx) (W : WX) (bv : Nat → Option V) (e : Option Expr) (f : EM (Option Int)) : Prop := PO X e (tG X.K W bv (smp fun _ (x : Option Int) a => x = a) f)
def intE (f : EM D) : EM (Option Int) := bnd f fun d => match d with
  | .int i => ret (some i)
  | _ => lif none
theorem po_imp {X : Cx} {e : Option Expr} {t t' : TO} (h : PO X e t) (w : ∀ σ H Q, t' σ H Q → t σ H Q) : PO X e t' := ⟨fun pins s σ H Q I q => h.run pins s σ H Q I (w σ H Q q)⟩
theorem do_none : DO X W bv none (ret none) := po_imp po_none fun σ H Q ⟨e, F, fp, S, q⟩ => AtG.here (r := fun _ x a => x = a) S q rfl
theorem do_some (ha : DE X W bv a fa) : DO X W bv (some a) (intE fa) := po_imp (po_some ha) fun σ H Q t => by
  refine tG.mono (tG.bnd (r := rD X.K) t) fun x H1 ⟨d, e1, F1, fp1, S1, r1, q1⟩ => ?_
  cases r1 with
  | int i => exact ⟨i, rfl, AtG.here (r := fun _ x a => x = a) S1 q1 rfl⟩
  | _ => exact q1.elim
def cutD {α : Type} (xs : List α) (lo hi : Option Int) : List α := (xs.drop (HT.sIx xs.length 0 lo)).take (HT.sIx xs.length xs.length hi - HT.sIx xs.length 0 lo)
theorem RpL.cut {F : Hp} {vs : List V} {ds : List D} {lo hi : Option Int} (r : RpL K F vs ds) : RpL K F (cutV vs lo hi) (cutD ds lo hi) := by
  unfold cutV cutD
  rw [r.length]
  exact (r.drop _).take _
def slD (d : D) (lo hi : Option Int) : Option D := match d with
  | .list ds => some (.list (cutD ds lo hi))
  | .tuple ds => some (.tuple (cutD ds lo hi))
  | .str z => if few z.length then some (.str (cutS z lo hi)) else none
  | _ => none
def slE (fa : EM D) (fl fh : EM (Option Int)) : EM D := bnd fa fun d => bnd fl fun lo => bnd fh fun hi => lif (slD d lo hi)
theorem cut_whole {α : Type} {xs : List α} {lo hi : Option Int} (h : HT.sIx xs.length 0 lo = 0 ∧ HT.sIx xs.length xs.length hi = xs.length) : cutD xs lo hi = xs := by
  unfold cutD
  rw [h.1, h.2]
  simp
theorem de_sl {lo hi : Option Expr} {fl fh : EM (Option Int)} {p2 : Pos} (ha : DE X W bv a fa) (hl : DO X W bv lo fl) (hh : DO X W bv hi fh) : DE X W bv (.Subscript a (.Slice lo hi none p2) pos) (slE fa fl fh) :=
  pe_imp (pe_slice (SlR.or sl_list (SlR.or sl_tupA sl_str)) ha hl hh) fun σ H Q t => by
    refine tG.mono (tG.bnd (r := rD X.K) t) fun x H1 ⟨d, e1, F1, fp1, S1, r1, q1⟩ => ?_
    refine tG.mono (AtG.bnd' (r := fun _ (x : Option Int) a => x = a) S1 q1) fun l H2 ⟨l', e2, F2, fp2, s2, S2, hl2, q2⟩ => ?_
    subst hl2
    refine tG.mono (AtG.bnd' (r := fun _ (x : Option Int) a => x = a) S2 q2) fun u H3 ⟨u', e3, F3, fp3, s3, S3, hu3, q3⟩ => ?_
    subst hu3
    have r3 := (Rp.mono s2 r1).mono s3
    obtain ⟨d', hd, q⟩ := q3.lif
    cases r3 with
    | lst h r =>
      cases hd
      refine .inl ⟨_, _, rfl, S3.sub.l h, fun p hp => ?_⟩
      exact AtG.made (r := rD X.K) S3 q hp (.lst (.inl (.inl upd_same)) (RpL.mono (Sub.new (S3.sub.non hp)) r.cut))
    | tup h r =>
      cases hd
      refine .inr (.inl ⟨_, _, rfl, S3.sub.t h, fun hw => ?_, fun _ p hp => ?_⟩)
      · rw [r.length] at hw
        rw [cut_whole hw] at q
        exact AtG.here (r := rD X.K) S3 q (.tup h r)
      · exact AtG.made (r := rD X.K) S3 q hp (.tup upd_same (RpL.mono (Sub.new (S3.sub.non hp)) r.cut))
    | str z =>
      simp only [slD] at hd
      split at hd
      · rename_i z1
        cases hd
        exact .inr (.inr ⟨z, rfl, few_le z1, AtG.here (r := rD X.K) S3 q (.str _)⟩)
      · cases hd
    | _ => cases hd
end
end FD

/-! FD: statements, loops. -/
namespace FD
open PySem L2
section
variable {K : PySem.W.Frag} {W : WX} {bv : Nat → Option V} {e : Env} {σ : L2.St} {F H : Hp} {fp : Nat → List Addr} {τ α : Type}
theorem AtS.back {g : EM Flow} {F0 H0 : Hp} {fp0 : Nat → List Addr} {D : Ends} (s : Stp F0 H0 (Pf fp0) F H (Pf fp)) (h : AtS K W bv g e σ F0 H0 fp0 D) : AtS K W bv g e σ F H fp D := by
  unfold AtS at h ⊢
  cases q : g e with
  | no => rw [q] at h; exact h
  | ex C fs e' => rw [q] at h; exact fun σ' F' H' fp' dx s' => h σ' F' H' fp' dx (s.trans s')
  | ok a e' =>
    rw [q] at h
    cases a with
    | nxt => exact fun σ' F' H' fp' s' => h σ' F' H' fp' (s.trans s')
    | brk => exact fun σ' F' H' fp' s' => h σ' F' H' fp' (s.trans s')
    | cnt => exact fun σ' F' H' fp' s' => h σ' F' H' fp' (s.trans s')
    | ret m => exact fun v σ' F' H' fp' P' s' => h v σ' F' H' fp' P' (s.trans s')
/-- AtS does not hang on the slots where it stands -/
theorem AtS.slots {g : EM Flow} {σ' : L2.St} {D : Ends} (h : AtS K W bv g e σ F H fp D) : AtS K W bv g e σ' F H fp D := h
theorem AtS.bnd' {r : Hp → τ → α → Prop} {f : EM α} {k : α → EM Flow} {D : Ends} (S : SS K bv e σ F H fp) (h : AtS K W bv (bnd f k) e σ F H fp D) :
    tG K W bv (smp r) f σ H fun x H1 => ∃ a e1 F1 fp1, Sub F F1 ∧ Stp F H (Pf fp) F1 H1 (Pf fp1) ∧ SS K bv e1 σ F1 H1 fp1 ∧ r F1 x a ∧ AtS K W bv (k a) e1 σ F1 H1 fp1 D := by
  refine ⟨e, F, fp, S, ?_⟩
  unfold AtS FD.bnd at h
  unfold AtG
  cases q : f e with
  | no => rw [q] at h; exact h
  | ex C fs e' => rw [q] at h; exact fun F' H' fp' dx s S' x => h σ F' H' fp' dx s S' x
  | ok a e' =>
    rw [q] at h
    intro x F' H' fp' P' s' S' r'
    obtain ⟨rfl, r'⟩ := r'
    exact ⟨a, e', F', fp', s'.ext, s', S', r', AtS.back s' h⟩
theorem AtS.bndM {f : EM M} {k : M → EM Flow} {D : Ends} (S : SS K bv e σ F H fp) (h : AtS K W bv (bnd f k) e σ F H fp D) :
    tM K W bv f σ H fun x H1 => ∃ m e1 F1 fp1 P1, f e = .ok m e1 ∧ Stp F H (Pf fp) F1 H1 P1 ∧ SS K bv e1 σ F1 H1 fp1 ∧ rM K F1 H1 fp1 P1 x m ∧ AtS K W bv (k m) e1 σ F H fp D := by
  refine ⟨e, F, fp, S, ?_⟩
  unfold AtS FD.bnd at h
  unfold AtG
  cases q : f e with
  | no => rw [q] at h; exact h
  | ex C fs e' => rw [q] at h; exact fun F' H' fp' dx s S' x => h σ F' H' fp' dx s S' x
  | ok a e' =>
    rw [q] at h
    intro x F' H' fp' P' s' S' r'
    exact ⟨a, e', F', fp', P', rfl, s', S', r', h⟩
/-- a slot is given another thing -/
theorem SS.store {i : Nat} {v : V} {m : M} {fpr : List Addr} {P : Addr → Prop} (S : SS K bv e σ F H fp) (hi : i < e.length) (hb : bv i = none) (o : Own K F H v m fpr) (nd : fpr.Nodup) (dj : ∀ a ∈ fpr, ¬ Pf fp a) (fr : ∀ a ∈ fpr, F a = none) :
    SS K bv (e.set i (some m)) (σ.set i (some v)) F H (FD.put fp i fpr) :=
  S.put (Sub.refl F) S.sub hi (List.getElem?_set_self (by rw [← S.len]; exact hi)) (fun j n => List.getElem?_set_ne (Ne.symm n)) (List.length_set ..) (fun u h => by rw [hb] at h; cases h) o nd fr (fun j _ a h q => dj a q ⟨j, h⟩) (fun _ _ _ _ _ h => h) fun j _ a h => S.fr j a h
theorem stp_store {F0 H0 : Hp} {fp0 : Nat → List Addr} {i : Nat} {fpr : List Addr} {P : Addr → Prop} (s : Stp F0 H0 (Pf fp0) F H P) (hP : P = fun a => Pf fp a ∨ a ∈ fpr) : Stp F0 H0 (Pf fp0) F H (Pf (FD.put fp i fpr)) where
  ext := s.ext
  keep := s.keep
  live := s.live
  newF := s.newF
  newP := fun a h => by
    obtain ⟨j, h⟩ := h
    refine s.newP a ?_
    rw [hP]
    by_cases n : j = i
    · rw [n, put_same] at h
      exact .inr h
    · rw [put_ne n] at h
      exact .inl ⟨j, h⟩
end

section
variable {X : Cx} {W : WX} {bv : Nat → Option V} {pos : Pos} {a b : Expr} {st : Stmt} {sts : List Stmt} {fa fb : EM D} {ta : EM Bool} {g g1 g2 : EM Flow}
def seqS (g1 g2 : EM Flow) : EM Flow := fun e => match g1 e with
  | .ok .nxt e' => g2 e'
  | o => o
theorem dss_nil : DSs X W bv [] (ret .nxt) := pss_imp pss_nil fun D σ H ⟨e, F, fp, S, q⟩ => q σ F H fp (Stp.refl _ _ _) S
theorem seqS_of {K : PySem.W.Frag} {D : Ends} {σ : L2.St} {H : Hp} (t : tS K W bv (seqS g1 g2) D σ H) : tS K W bv g1 { D with nx := tS K W bv g2 D } σ H := by
  obtain ⟨e, F, fp, S, h⟩ := t
  refine ⟨e, F, fp, S, ?_⟩
  unfold AtS seqS at h
  show OutS _ _ _ (g1 e) _ _ _ _
  cases q : g1 e with
  | no => rw [q] at h; exact h
  | ex C fs e' => rw [q] at h; exact h
  | ok fl e' =>
    rw [q] at h
    cases fl with
    | nxt => exact fun σ' F' H' fp' s' S' => ⟨e', F', fp', S', AtS.back s' (AtS.slots (σ := σ) h)⟩
    | brk => exact h
    | cnt => exact h
    | ret m => exact h
theorem dss_cons (h1 : DS X W bv st g1) (h2 : DSs X W bv sts g2) : DSs X W bv (st :: sts) (seqS g1 g2) := pss_imp (pss_cons h1 h2) fun D σ H t => seqS_of t
theorem dss_one (h1 : DS X W bv st g1) : DSs X W bv [st] g1 := pss_one h1
theorem ds_pass : DS X W bv (.Pass pos) (ret .nxt) := ps_imp ps_pass fun D σ H ⟨e, F, fp, S, q⟩ => q σ F H fp (Stp.refl _ _ _) S
theorem ds_break : DS X W bv (.Break pos) (ret .brk) := ps_imp ps_break fun D σ H ⟨e, F, fp, S, q⟩ => q σ F H fp (Stp.refl _ _ _) S
theorem ds_continue : DS X W bv (.Continue pos) (ret .cnt) := ps_imp ps_continue fun D σ H ⟨e, F, fp, S, q⟩ => q σ F H fp (Stp.refl _ _ _) S
/-- what is never reached -/
theorem ds_never : DS X W bv st (fun _ => .no) := ps_imp ps_never fun D σ H ⟨e, F, fp, S, q⟩ => q.elim
def exprS (f : EM D) : EM Flow := bnd f fun _ => ret .nxt
theorem ds_expr (h : DE X W bv a fa) (hs : swapsWith a none pos.line X.env = pure false := by rfl) : DS X W bv (.Expr a pos) (exprS fa) :=
  ps_imp (ps_expr h hs) fun D σ H ⟨e, F, fp, S, q⟩ =>
    tG.mono (AtS.bnd' (r := rD X.K) S q) fun x H1 ⟨d, e1, F1, fp1, _, _, S1, _, q1⟩ => q1 σ F1 H1 fp1 (Stp.refl _ _ _) S1
def retS (f : EM D) : EM Flow := bnd f fun d => ret (.ret (.im d))
def retM (f : EM M) : EM Flow := bnd f fun m => ret (.ret m)
theorem ds_ret (h : DE X W bv a fa) : DS X W bv (.Return (some a) pos) (retS fa) :=
  ps_imp (ps_ret h) fun D σ H ⟨e, F, fp, S, q⟩ =>
    tG.mono (AtS.bnd' (r := rD X.K) S q) fun x H1 ⟨d, e1, F1, fp1, _, _, S1, r1, q1⟩ => q1 x σ F1 H1 fp1 (Pf fp1) (Stp.refl _ _ _) S1 ⟨[], by simp, .im r1, List.nodup_nil, by simp, by simp⟩
theorem ds_retM {f : EM M} (h : DM X W bv a f) : DS X W bv (.Return (some a) pos) (retM f) :=
  ps_imp (ps_ret h) fun D σ H ⟨e, F, fp, S, q⟩ =>
    tG.mono (AtS.bndM S q) fun x H1 ⟨m, e1, F1, fp1, P1, _, s1, S1, r1, q1⟩ => q1 x σ F1 H1 fp1 P1 s1 S1 r1
theorem ds_retN : DS X W bv (.Return none pos) (ret (.ret (.im .none))) :=
  ps_imp ps_retN fun D σ H ⟨e, F, fp, S, q⟩ => q .non σ F H fp (Pf fp) (Stp.refl _ _ _) S ⟨[], by simp, .im .non, List.nodup_nil, by simp, by simp⟩
def ifS (c : EM Bool) (g1 g2 : EM Flow) : EM Flow := bnd c fun k => if k then g1 else g2
theorem ds_if {c : Expr} {s1 s2 : List Stmt} (hc : DT X W bv c ta) (h1 : DSs X W bv s1 g1) (h2 : DSs X W bv s2 g2) : DS X W bv (.If c s1 s2 pos) (ifS ta g1 g2) :=
  ps_imp (ps_if hc h1 h2) fun D σ H ⟨e, F, fp, S, q⟩ =>
    tG.mono (AtS.bnd' (r := rB) S q) fun x H1 ⟨k, e1, F1, fp1, _, _, S1, r1, q1⟩ => by
      cases (show x = k from r1)
      cases x with
      | true => exact ⟨e1, F1, fp1, S1, q1⟩
      | false => exact ⟨e1, F1, fp1, S1, q1⟩

/-! ### stores to names -/
def stoM (i : Nat) (m : M) : EM Flow := fun e => if i < e.length then .ok .nxt (e.set i (some m)) else .no
def setS (i : Nat) (f : EM D) : EM Flow := bnd f fun d => stoM i (.im d)
def setM (i : Nat) (f : EM M) : EM Flow := bnd f fun m => stoM i m
theorem stoM_at {K : PySem.W.Frag} {D : Ends} {σ : L2.St} {F0 H0 F H : Hp} {fp0 fp : Nat → List Addr} {e : Env} {i : Nat} {v : V} {m : M} {P : Addr → Prop} (hb : bv i = none) (s : Stp F0 H0 (Pf fp0) F H P) (S : SS K bv e σ F H fp) (r : rM K F H fp P v m) (q : AtS K W bv (stoM i m) e σ F0 H0 fp0 D) :
    D.nx (σ.set i (some v)) H := by
  obtain ⟨fpr, hP, o, nd, dj, fr⟩ := r
  unfold AtS stoM at q
  by_cases hi : i < e.length
  · rw [if_pos hi] at q
    exact q _ F H (put fp i fpr) (stp_store s hP) (S.store (P := P) hi hb o nd dj fr)
  · rw [if_neg hi] at q
    exact q.elim
theorem rM_im {K : PySem.W.Frag} {F H : Hp} {fp : Nat → List Addr} {v : V} {d : D} (r : Rp K F v d) : rM K F H fp (Pf fp) v (.im d) := ⟨[], by simp, .im r, List.nodup_nil, by simp, by simp⟩
theorem ds_set (i : Nat) {x : Str} {pos' : Pos} (hN : X.N.Nodup) (h : DE X W bv a fa) (hi : X.N[i]? = some x := by rfl) (hx : Loc X.env.scope x := by first | exact Or.inl rfl | exact Or.inr rfl) (hb : bv i = none := by rfl)
    (hs : swapsWith a (some (.Name x pos')) pos.line X.env = pure false := by rfl) (hf : X.fn x = true ∨ X.env.scope.names.lookup x = some .local := by first | exact .inl rfl | exact .inr rfl) : DS X W bv (.Assign [.Name x pos'] a pos) (setS i fa) :=
  ps_imp (ps_set hN hi hx h hs hf) fun D σ H ⟨e, F, fp, S, q⟩ =>
    tG.mono (AtS.bnd' (r := rD X.K) S q) fun v H1 ⟨d, e1, F1, fp1, _, _, S1, r1, q1⟩ => stoM_at hb (Stp.refl _ _ _) S1 (rM_im r1) q1
theorem ds_setM (i : Nat) {x : Str} {pos' : Pos} {f : EM M} (hN : X.N.Nodup) (h : DM X W bv a f) (hi : X.N[i]? = some x := by rfl) (hx : Loc X.env.scope x := by first | exact Or.inl rfl | exact Or.inr rfl) (hb : bv i = none := by rfl)
    (hs : swapsWith a (some (.Name x pos')) pos.line X.env = pure false := by rfl) (hf : X.fn x = true ∨ X.env.scope.names.lookup x = some .local := by first | exact .inl rfl | exact .inr rfl) : DS X W bv (.Assign [.Name x pos'] a pos) (setM i f) :=
  ps_imp (ps_set hN hi hx h hs hf) fun D σ H ⟨e, F, fp, S, q⟩ =>
    tG.mono (AtS.bndM S q) fun v H1 ⟨d, e1, F1, fp1, P1, _, s1, S1, r1, q1⟩ => stoM_at hb s1 S1 r1 q1

/-! ### targets -/
/-! what a target makes of data -/
/-- the slots but those at l are as they were -/
def Off (l : List Nat) (σ σ' : L2.St) : Prop := σ'.length = σ.length ∧ ∀ j, j ∉ l → σ'[j]? = σ[j]?
theorem Off.refl (σ : L2.St) : Off [] σ σ := ⟨rfl, fun _ _ => rfl⟩
theorem Off.set (i : Nat) (σ : L2.St) (x : Option V) : Off [i] σ (σ.set i x) := ⟨List.length_set .., fun j h => List.getElem?_set_ne fun e => h (by rw [e]; exact List.mem_singleton.mpr rfl)⟩
theorem Off.trans {l l' : List Nat} {σ σ1 σ2 : L2.St} (a : Off l σ σ1) (b : Off l' σ1 σ2) : Off (l ++ l') σ σ2 := ⟨b.1.trans a.1, fun j h => by
  rw [List.mem_append, not_or] at h
  rw [b.2 j h.2, a.2 j h.1]⟩
def tTg (K : PySem.W.Frag) (bv : Nat → Option V) (l : List Nat) (tg : D → EM Unit) : TG := fun v σ H Q => ∃ e F fp d, SS K bv e σ F H fp ∧ Rp K F v d ∧ match tg d e with
  | .ok _ e' => ∀ σ' F' H' fp', Off l σ σ' → Stp F H (Pf fp) F' H' (Pf fp') → SS K bv e' σ' F' H' fp' → Q σ' H'
  | _ => False
def tTgs (K : PySem.W.Frag) (bv : Nat → Option V) (l : List Nat) (tg : List D → EM Unit) : TGs := fun v σ H Q => ∃ e F fp d, SS K bv e σ F H fp ∧ RpL K F v d ∧ match tg d e with
  | .ok _ e' => ∀ σ' F' H' fp', Off l σ σ' → Stp F H (Pf fp) F' H' (Pf fp') → SS K bv e' σ' F' H' fp' → Q σ' H'
  | _ => False
abbrev DG (X : Cx) (bv : Nat → Option V) (tg : Expr) (l : List Nat) (f : D → EM Unit) : Prop := PG X tg (tTg X.K bv l f)
abbrev DGs (X : Cx) (bv : Nat → Option V) (tg : List Expr) (l : List Nat) (f : List D → EM Unit) : Prop := PGs X tg (tTgs X.K bv l f)
theorem pg_imp {X : Cx} {e : Expr} {t t' : TG} (h : PG X e t) (w : ∀ v σ H Q, t' v σ H Q → t v σ H Q) : PG X e t' := ⟨fun pins s σ H v u Q I r q => h.run pins s σ H v u Q I r (w v σ H Q q)⟩
theorem pgs_imp {X : Cx} {e : List Expr} {t t' : TGs} (h : PGs X e t) (w : ∀ v σ H Q, t' v σ H Q → t v σ H Q) : PGs X e t' := ⟨fun pins s σ H v u Q I r q => h.run pins s σ H v u Q I r (w v σ H Q q)⟩
def gN (i : Nat) : D → EM Unit := fun d e => if i < e.length then .ok () (e.set i (some (.im d))) else .no
theorem dg_name (i : Nat) {x : Str} (hN : X.N.Nodup) (hi : X.N[i]? = some x := by rfl) (hx : Loc X.env.scope x := by first | exact Or.inl rfl | exact Or.inr rfl) (hb : bv i = none := by rfl) (hf : X.fn x = true ∨ X.env.scope.names.lookup x = some .local := by first | exact .inl rfl | exact .inr rfl) : DG X bv (.Name x pos) [i] (gN i) :=
  pg_imp (pg_name hN hi hx hf) fun v σ H Q ⟨e, F, fp, d, S, r, q⟩ => by
    unfold gN at q
    by_cases hi : i < e.length
    · rw [if_pos hi] at q
      obtain ⟨fpr, hP, o, nd, dj, fr⟩ := rM_im (H := H) (fp := fp) r
      exact q _ F H (put fp i fpr) (Off.set i σ _) (stp_store (Stp.refl _ _ _) hP) (S.store (P := Pf fp) hi hb o nd dj fr)
    · rw [if_neg hi] at q
      exact q.elim
def gsNil : List D → EM Unit := fun ds e => match ds with
  | [] => .ok () e
  | _ => .no
def gsCons (t : D → EM Unit) (u : List D → EM Unit) : List D → EM Unit := fun ds e => match ds with
  | d :: r => bnd (t d) (fun _ => u r) e
  | [] => .no
theorem dgs_nil : DGs X bv [] [] gsNil := pgs_imp pgs_nil fun v σ H Q ⟨e, F, fp, d, S, r, q⟩ => by
  cases r with
  | nil => exact ⟨rfl, q σ F H fp (Off.refl σ) (Stp.refl _ _ _) S⟩
  | cons _ _ => exact q.elim
theorem dgs_cons {es : List Expr} {l l' : List Nat} {t : D → EM Unit} {u : List D → EM Unit} (h1 : DG X bv a l t) (h2 : DGs X bv es l' u) (hs : (assignEach (a :: es) X.env).map (·.2) = assign a X.env :: (assignEach es X.env).map (·.2) := by rfl) : DGs X bv (a :: es) (l ++ l') (gsCons t u) :=
  pgs_imp (pgs_cons h1 h2 hs) fun vs σ H Q t0 => by
    obtain ⟨e, F, fp, ds, S, r, q⟩ := t0
    cases r with
    | nil => exact q.elim
    | cons r1 r2 =>
      rename_i v vs' d ds'
      refine ⟨v, vs', rfl, e, F, fp, d, S, r1, ?_⟩
      simp only [gsCons, bnd] at q
      cases z : t d e with
      | no => rw [z] at q; exact q.elim
      | ex _ _ _ => rw [z] at q; exact q.elim
      | ok _ e1 =>
        rw [z] at q
        dsimp only at q
        intro σ1 F1 H1 fp1 o1 s1 S1
        refine ⟨e1, F1, fp1, ds', S1, r2.mono s1.ext, ?_⟩
        cases z2 : u ds' e1 with
        | no => rw [z2] at q; exact q.elim
        | ex _ _ _ => rw [z2] at q; exact q.elim
        | ok _ e2 => rw [z2] at q; exact fun σ' F' H' fp' o' s' S' => q σ' F' H' fp' (o1.trans o') (s1.trans s') S'
def gT (n : Nat) (u : List D → EM Unit) : D → EM Unit := fun d e => match d with
  | .tuple ds => if ds.length = n then u ds e else .no
  | _ => .no
theorem dg_tup {es : List Expr} {k n : Nat} {l : List Nat} {u : List D → EM Unit} (h : DGs X bv es l u) (hc : X.calm = true := by rfl) (hn : (assignEach es X.env).length = n := by rfl) (hst : (assignEach es X.env).findIdx? (·.1) = none := by rfl) : DG X bv (.Tuple es k pos) l (gT n u) :=
  pg_imp (pg_tup hc h hn hst) fun v σ H Q t0 => by
    obtain ⟨e, F, fp, d, S, r, q⟩ := t0
    cases r with
    | tup hq rl =>
      rename_i a0 vs0 ds0
      simp only [gT] at q
      by_cases hl : ds0.length = n
      · simp only [if_pos hl] at q
        exact ⟨_, _, rfl, S.sub.t hq, by rw [rl.length]; exact hl, e, F, fp, _, S, rl, q⟩
      · simp only [if_neg hl] at q
    | _ => exact q.elim
end
end FD

/-! FD: more stores, while, for. -/
namespace FD
open PySem L2
section
variable {X : Cx} {W : WX} {bv : Nat → Option V} {pos : Pos} {a b : Expr} {st : Stmt} {sts : List Stmt} {fa fb : EM D} {fs : EM (List D)} {ta : EM Bool} {g g1 g2 : EM Flow}
def goS (u : EM Unit) : EM Flow := bnd u fun _ => ret .nxt
theorem goS_at {K : PySem.W.Frag} {D : Ends} {σ : L2.St} {F H : Hp} {fp : Nat → List Addr} {e : Env} {u : EM Unit} (q : AtS K W bv (goS u) e σ F H fp D) (hu : ∀ C fs e', u e ≠ .ex C fs e') : match u e with
    | .ok _ e' => ∀ σ' F' H' fp', Stp F H (Pf fp) F' H' (Pf fp') → SS K bv e' σ' F' H' fp' → D.nx σ' H'
    | _ => False := by
  unfold AtS goS bnd at q
  cases z : u e with
  | no => rw [z] at q; exact q
  | ex C fs e' => exact absurd z (hu C fs e')
  | ok _ e' => rw [z] at q; exact q
/-- a target never raises -/
def NoEx (t : D → EM Unit) : Prop := ∀ d e C fs e', t d e ≠ .ex C fs e'
def NoExs (t : List D → EM Unit) : Prop := ∀ d e C fs e', t d e ≠ .ex C fs e'
theorem nx_name (i : Nat) : NoEx (gN i) := fun d e C fs e' h => by
  unfold gN at h
  split at h <;> cases h
theorem nx_nil : NoExs gsNil := fun d e C fs e' h => by
  cases d <;> cases h
theorem nx_cons {t : D → EM Unit} {u : List D → EM Unit} (h1 : NoEx t) (h2 : NoExs u) : NoExs (gsCons t u) := fun d e C fs e' h => by
  cases d with
  | nil => cases h
  | cons d r =>
    simp only [gsCons, bnd] at h
    cases z : t d e with
    | no => rw [z] at h; cases h
    | ex _ _ _ => exact h1 _ _ _ _ _ z
    | ok _ e1 => rw [z] at h; exact h2 _ _ _ _ _ h
theorem nx_tup {n : Nat} {u : List D → EM Unit} (h : NoExs u) : NoEx (gT n u) := fun d e C fs e' q => by
  unfold gT at q
  split at q
  · split at q
    · exact h _ _ _ _ _ q
    · cases q
  · cases q
def asgS (f : EM D) (t : D → EM Unit) : EM Flow := bnd f fun d => goS (t d)
theorem ds_asg {tg : Expr} {l : List Nat} {t : D → EM Unit} (h : DE X W bv a fa) (hg : DG X bv tg l t) (hn : NoEx t) (hs : swapsWithSole [tg] a pos.line X.env = pure false := by rfl) (hw : swappedStores [tg] a X.env = pure none := by rfl)
    (h1 : (assignEach [tg] X.env).map (·.2) = [assign tg X.env] := by rfl) : DS X W bv (.Assign [tg] a pos) (asgS fa t) :=
  ps_imp (ps_asg h hg hs hw h1) fun D σ H ⟨e, F, fp, S, q⟩ =>
    tG.mono (AtS.bnd' (r := rD X.K) S q) fun v H1 ⟨d, e1, F1, fp1, _, _, S1, r1, q1⟩ => ⟨e1, F1, fp1, d, S1, r1, by
      have z := goS_at q1 (hn d e1)
      cases w : t d e1 with
      | no => rw [w] at z; exact z
      | ex _ _ _ => rw [w] at z; exact z
      | ok _ e' => rw [w] at z; exact fun σ' F' H' fp' _ s' S' => z σ' F' H' fp' s' S'⟩
/-- a, b = x, y with two plain names -/
def parS (fs : EM (List D)) (u : List D → EM Unit) : EM Flow := bnd fs fun ds => goS (u ds)
theorem gN_at {K : PySem.W.Frag} {σ : L2.St} {F H : Hp} {fp : Nat → List Addr} {e e' : Env} {i : Nat} {v : V} {d : D} (hb : bv i = none) (S : SS K bv e σ F H fp) (r : Rp K F v d) (q : gN i d e = .ok () e') :
    ∃ fp', Stp F H (Pf fp) F H (Pf fp') ∧ SS K bv e' (σ.set i (some v)) F H fp' := by
  unfold gN at q
  by_cases hi : i < e.length
  · rw [if_pos hi] at q
    cases q
    obtain ⟨fpr, hP, o, nd, dj, fr⟩ := rM_im (H := H) (fp := fp) r
    exact ⟨_, stp_store (Stp.refl _ _ _) hP, S.store (P := Pf fp) hi hb o nd dj fr⟩
  · rw [if_neg hi] at q
    cases q
theorem bnd_ok {α β : Type} {f : EM α} {k : α → EM β} {e e' : Env} {y : β} (h : bnd f k e = .ok y e') : ∃ x e1, f e = .ok x e1 ∧ k x e1 = .ok y e' := by
  unfold bnd at h
  cases z : f e with
  | no => rw [z] at h; cases h
  | ex _ _ _ => rw [z] at h; cases h
  | ok x e1 => rw [z] at h; exact ⟨x, e1, rfl, h⟩
theorem par2_at {K : PySem.W.Frag} {En : Ends} {σ : L2.St} {F H : Hp} {fp : Nat → List Addr} {e : Env} {i j : Nat} {vs : List V} {ds : List D} (hi : bv i = none) (hj : bv j = none) (S : SS K bv e σ F H fp) (r : RpL K F vs ds)
    (q : AtS K W bv (goS (gsCons (gN i) (gsCons (gN j) gsNil) ds)) e σ F H fp En) : ∃ v w, vs = [v, w] ∧ En.nx ((σ.set i (some v)).set j (some w)) H := by
  have q := goS_at q (nx_cons (nx_name i) (nx_cons (nx_name j) nx_nil) ds e)
  cases z : gsCons (gN i) (gsCons (gN j) gsNil) ds e with
  | no => rw [z] at q; exact q.elim
  | ex _ _ _ => rw [z] at q; exact q.elim
  | ok _ e' =>
    rw [z] at q
    cases r with
    | nil => cases z
    | cons r1 r =>
      cases r with
      | nil => obtain ⟨_, _, _, z2⟩ := bnd_ok z; cases z2
      | cons r2 r =>
        cases r with
        | cons _ _ =>
          obtain ⟨_, _, _, z2⟩ := bnd_ok z
          obtain ⟨_, _, _, z3⟩ := bnd_ok z2
          cases z3
        | nil =>
          obtain ⟨_, e1, z1, z2⟩ := bnd_ok z
          obtain ⟨_, e2, z2, z3⟩ := bnd_ok z2
          cases z3
          obtain ⟨fp1, s1, S1⟩ := gN_at hi S r1 z1
          obtain ⟨fp2, s2, S2⟩ := gN_at hj S1 r2 z2
          exact ⟨_, _, rfl, q _ _ _ fp2 (s1.trans s2) S2⟩
theorem ds_par2 (i j : Nat) {x y : Str} {px py pt : Pos} {kt k2 pt2} (hN : X.N.Nodup) (ha : DA X W bv [a, b] fs) (hc : X.calm = true := by rfl) (hi : X.N[i]? = some x := by rfl) (hj : X.N[j]? = some y := by rfl) (hij : i ≠ j := by decide)
    (hx : X.env.scope.names.lookup x = some .local := by rfl) (hy : X.env.scope.names.lookup y = some .local := by rfl) (hbi : bv i = none := by rfl) (hbj : bv j = none := by rfl)
    (hw : swappedStores [.Tuple [.Name x px, .Name y py] kt pt] (.Tuple [a, b] k2 pt2) X.env = pure (some [x, y]) := by rfl)
    (hs : swapsWithSole [.Tuple [.Name x px, .Name y py] kt pt] (.Tuple [a, b] k2 pt2) pos.line X.env = pure false := by rfl) :
    DS X W bv (.Assign [.Tuple [.Name x px, .Name y py] kt pt] (.Tuple [a, b] k2 pt2) pos) (parS fs (gsCons (gN i) (gsCons (gN j) gsNil))) :=
  ps_imp (ps_par hc hN hi hj hij hx hy ha hw hs) fun D σ H ⟨e, F, fp, S, q⟩ =>
    tG.mono (AtS.bnd' (r := rL X.K) S q) fun vs H1 ⟨ds, e1, F1, fp1, _, _, S1, r1, q1⟩ => par2_at hbi hbj S1 r1 q1
/-- x op= e of numbers -/
def augS (i : Nat) (g : D → D → Option D) (f : EM D) : EM Flow := bnd (var i) fun x => bnd f fun y => bnd (lif (g x y)) fun z => stoM i (.im z)
theorem ds_aug (i : Nat) {x : Str} {op : Operator} {g : D → D → Option D} {pos' : Pos} (hN : X.N.Nodup) (ho : OpD X (inplaceOp op) g) (h : DE X W bv a fa) (hi : X.N[i]? = some x := by rfl) (hx : Loc X.env.scope x := by first | exact Or.inl rfl | exact Or.inr rfl) (hb : bv i = none := by rfl)
    (hf : X.fn x = true ∨ X.env.scope.names.lookup x = some .local := by first | exact .inl rfl | exact .inr rfl) : DS X W bv (.AugAssign (.Name x pos') op a pos) (augS i g fa) := by
  obtain ⟨r, hr, h'⟩ := ho
  refine ps_imp (ps_aug hN hi hx h hr hf) fun D σ H ⟨e, F, fp, S, q⟩ => ?_
  obtain ⟨e0, F0, fp0, S0, q0⟩ := AtS.bnd' (r := rD X.K) S q
  obtain ⟨v, hv, d, e1, F1, fp1, _, _, S1, r1, q1⟩ := var_at S0 q0
  refine ⟨v, hv, ?_⟩
  refine tG.mono (AtS.bnd' (r := rD X.K) S1 q1) fun y H2 ⟨d2, e2, F2, fp2, s2, _, S2, r2, q2⟩ => ?_
  obtain ⟨e3, F3, fp3, S3, q3⟩ := AtS.bnd' (r := rD X.K) S2 q2
  refine h' W bv e2 σ F2 H2 fp2 v y d d2 _ S2 (r1.mono s2) r2 ?_
  unfold AtG
  cases z : g d d2 with
  | none => rw [z] at q2; exact q2
  | some w =>
    rw [z] at q2
    intro v' F' H' fp' P' s' S' r'
    obtain ⟨rfl, r'⟩ := r'
    exact stoM_at hb s' S' (rM_im r') q2
def iaddD : D → D → Option D := intOp allI (· + ·)
theorem oi_add : OpD X (inplaceOp .Add) iaddD := ⟨_, iop_add, opv_int0⟩
theorem oi_sub : OpD X (inplaceOp .Sub) subD := ⟨_, iop_sub, opv_int0⟩

/-! ### while -/
def whileS : Nat → EM Bool → EM Flow → EM Flow
  | 0, _, _ => fun _ => .no
  | n + 1, c, g => bnd c fun k => if k then (fun e => match g e with
      | .ok .nxt e' => whileS n c g e'
      | .ok .cnt e' => whileS n c g e'
      | .ok .brk e' => .ok .nxt e'
      | .ok (.ret m) e' => .ok (.ret m) e'
      | .ex C fs e' => .ex C fs e'
      | .no => .no) else ret .nxt
theorem ds_while (n : Nat) {c : Expr} {body : List Stmt} (hc : DT X W bv c ta) (hb : DSs X W bv body g) (hp : PassesOwn (model X.prog X.w) X.A X.env X.xe) : DS X W bv (.While c body [] pos) (whileS n ta g) :=
  ps_imp (ps_while hp hc hb) fun D σ H ⟨e, F, fp, S, q⟩ => by
    refine ⟨fun m σ' H' => ∃ e' F' fp', SS X.K bv e' σ' F' H' fp' ∧ AtS X.K W bv (whileS m ta g) e' σ' F' H' fp' D, ⟨n, e, F, fp, S, q⟩, fun m σ' H' ⟨e', F', fp', S', q'⟩ => ?_⟩
    cases m with
    | zero => exact q'.elim
    | succ m =>
      refine tG.mono (AtS.bnd' (r := rB) S' q') fun x H1 ⟨k, e1, F1, fp1, _, _, S1, r1, q1⟩ => ?_
      cases (show x = k from r1)
      cases x with
      | false =>
        rw [if_neg Bool.false_ne_true]
        exact q1 σ' F1 H1 fp1 (Stp.refl _ _ _) S1
      | true =>
        rw [if_pos rfl]
        refine ⟨_, fun σ2 H2 h2 => ⟨m, Nat.lt_succ_self m, h2⟩, e1, F1, fp1, S1, ?_⟩
        rw [if_pos rfl] at q1
        show OutS _ _ _ (g e1) _ _ _ _
        unfold AtS at q1
        dsimp only at q1
        cases z : g e1 with
        | no => rw [z] at q1; exact q1
        | ex C fs e2 => rw [z] at q1; exact q1
        | ok fl e2 =>
          rw [z] at q1
          cases fl with
          | nxt => exact fun σ2 F2 H2 fp2 s2 S2 => ⟨e2, F2, fp2, S2, AtS.back s2 (AtS.slots (σ := σ') q1)⟩
          | cnt => exact fun σ2 F2 H2 fp2 s2 S2 => ⟨e2, F2, fp2, S2, AtS.back s2 (AtS.slots (σ := σ') q1)⟩
          | brk => exact q1
          | ret _ => exact q1

/-! ### what is walked -/
def Grow (F H F' H' : Hp) : Prop := (F' = F ∧ H' = H) ∨ (∃ p o, H p = none ∧ F' = upd F p o ∧ H' = upd H p o) ∨ ∃ p vs, H p = some (.tup vs) ∧ F' = upd F p (.tup vs) ∧ H' = H
/-- while F stands, J gives the data ds, one by one -/
def WalksD (K : PySem.W.Frag) (J : It) (F : Hp) (ds : List D) : Prop := ∀ F' H i, Sub F F' → Sub F' H →
  (∀ d, ds[i]? = some d → J.go i H ∧ ∀ x H', J.yld i H x H' → ∃ F'', Grow F' H F'' H' ∧ Rp K F'' x d) ∧ (ds.length ≤ i → i ≤ ds.length → J.stop i H)
def tI (K : PySem.W.Frag) (W : WX) (bv : Nat → Option V) (f : EM (List D)) : TI := fun σ H R => ∃ e F fp, SS K bv e σ F H fp ∧ match f e with
  | .ok ds e' => ∀ J F' H' fp', Stp F H (Pf fp) F' H' (Pf fp') → SS K bv e' σ F' H' fp' → WalksD K J F' ds → R J H'
  | .ex C fs e' => ∀ F' H' fp' dx, Stp F H (Pf fp) F' H' (Pf fp') → SS K bv e' σ F' H' fp' → XRep K F' fs dx → W (.ref C) dx σ H'
  | .no => False
abbrev DI (X : Cx) (W : WX) (bv : Nat → Option V) (tg iter : Expr) (f : EM (List D)) : Prop := PI X tg iter (tI X.K W bv f)
theorem pi_imp {X : Cx} {tg e : Expr} {t t' : TI} (h : PI X tg e t) (w : ∀ σ H Q, t' σ H Q → t σ H Q) : PI X tg e t' := ⟨fun pins s σ H Q I q => h.run pins s σ H Q I (w σ H Q q)⟩
theorem Sub.seen {F H : Hp} {p : Addr} {vs : List V} (s : Sub F H) (hp : H p = some (.tup vs)) : Sub F (upd F p (.tup vs)) ∧ Sub (upd F p (.tup vs)) H := by
  have rp : ∀ u, Rd F p u → u = .tup vs := fun u r => by
    rcases s.rd p u r with z | ⟨o, z⟩
    · rw [hp] at z; cases z; rfl
    · rw [hp] at z; cases z
  refine ⟨⟨fun a u r => ?_, fun a ws q => ?_, fun a ob u q => ?_⟩, ⟨fun a u r => ?_, fun a ws q => ?_, fun a ob u q => ?_⟩⟩
  · by_cases e : a = p
    · subst e
      rw [rp u r]
      exact .inl upd_same
    · exact rd_at (upd_ne e) r
  · by_cases e : a = p
    · subst e
      have := s.tp _ _ q
      rw [hp] at this
      cases this
      exact upd_same
    · rw [upd_ne e]; exact q
  · by_cases e : a = p
    · subst e
      have := s.fz _ _ _ q
      rw [hp] at this
      cases this
    · rw [upd_ne e]; exact q
  · by_cases e : a = p
    · subst e
      exact rd_at (by rw [hp, upd_same]) r
    · exact s.rd a u (rd_at (upd_ne e).symm r)
  · by_cases e : a = p
    · subst e
      rw [upd_same] at q
      rw [hp]; exact q
    · rw [upd_ne e] at q; exact s.tp a ws q
  · by_cases e : a = p
    · subst e
      rw [upd_same] at q
      cases q
    · rw [upd_ne e] at q; exact s.fz a ob u q
theorem Grow.stp {F H F' H' : Hp} {P : Addr → Prop} (s : Sub F H) (g : Grow F H F' H') : Stp F H P F' H' P := by
  rcases g with ⟨rfl, rfl⟩ | ⟨p, o, hp, rfl, rfl⟩ | ⟨p, vs, hp, rfl, rfl⟩
  · exact Stp.refl _ _ _
  · exact Stp.new s hp
  · refine ⟨(s.seen hp).1, fun _ _ h _ _ => h, fun _ h => h, fun a h => ?_, fun _ h => .inl h⟩
    by_cases e : a = p
    · subst e
      exact .inr (.inr fun o ho => by rw [hp] at ho; cases ho; exact ⟨_, rfl⟩)
    · rw [upd_ne e] at h; exact .inl h
theorem Grow.ss {K : PySem.W.Frag} {e : Env} {σ : L2.St} {F H F' H' : Hp} {fp : Nat → List Addr} (S : SS K bv e σ F H fp) (g : Grow F H F' H') : SS K bv e σ F' H' fp := by
  rcases g with ⟨rfl, rfl⟩ | ⟨p, o, hp, rfl, rfl⟩ | ⟨p, vs, hp, rfl, rfl⟩
  · exact S
  · exact S.new hp
  · refine S.heap (S.sub.seen hp).1 (S.sub.seen hp).2 (fun _ _ _ _ h => h) fun i a h => ?_
    rw [upd_ne fun z => S.ntup h vs (by rw [z]; exact hp)]
    exact S.fr i a h
def loopS (t : D → EM Unit) (g : EM Flow) : List D → EM Flow
  | [] => ret .nxt
  | d :: ds => fun e => match t d e with
    | .ok _ e1 => match g e1 with
      | .ok .nxt e' => loopS t g ds e'
      | .ok .cnt e' => loopS t g ds e'
      | .ok .brk e' => .ok .nxt e'
      | .ok (.ret m) e' => .ok (.ret m) e'
      | .ex C fs e' => .ex C fs e'
      | .no => .no
    | _ => .no
def forS (f : EM (List D)) (t : D → EM Unit) (g : EM Flow) : EM Flow := bnd f fun ds => loopS t g ds
theorem ds_for {tg iter : Expr} {body : List Stmt} {fi : EM (List D)} {l : List Nat} {t : D → EM Unit} (hi : DI X W bv tg iter fi) (hg : DG X bv tg l t) (hb : DSs X W bv body g) (hp : PassesOwn (model X.prog X.w) X.A X.env X.xe) (hc : X.calm = true := by rfl)
    (hs : ∀ x, foldedSetIterable iter X.env x = pure x := by intro _; rfl) : DS X W bv (.For tg iter body [] pos) (forS fi t g) :=
  ps_imp (ps_for hp hc hi hg hb hs) fun D σ H ⟨e, F, fp, S, q⟩ => by
    refine ⟨e, F, fp, S, ?_⟩
    unfold AtS forS bnd at q
    cases z : fi e with
    | no => rw [z] at q; exact q
    | ex C fs e' => rw [z] at q; exact fun F' H' fp' dx s S' x => q σ F' H' fp' dx s S' x
    | ok ds e1 =>
      rw [z] at q
      intro J F1 H1 fp1 s1 S1 wk
      have q1 : AtS X.K W bv (loopS t g ds) e1 σ F1 H1 fp1 D := AtS.back s1 q
      refine ⟨fun i m σ' H' => m = ds.length - i ∧ i ≤ ds.length ∧ ∃ e' F' fp', Sub F1 F' ∧ SS X.K bv e' σ' F' H' fp' ∧ AtS X.K W bv (loopS t g (ds.drop i)) e' σ' F' H' fp' D, ⟨ds.length, rfl, Nat.zero_le _, e1, F1, fp1, Sub.refl _, S1, q1⟩, ?_⟩
      rintro i m σ' H' ⟨rfl, hi, e', F', fp', sub, S', q'⟩
      obtain ⟨go, stop⟩ := wk F' H' i sub S'.sub
      by_cases hlt : i < ds.length
      · refine .inr ⟨(go ds[i] (List.getElem?_eq_getElem hlt)).1, _, fun σ2 H2 h2 => ⟨ds.length - (i + 1), by omega, h2⟩, fun x H2 y => ?_⟩
        obtain ⟨F2, gr, r2⟩ := (go ds[i] (List.getElem?_eq_getElem hlt)).2 x H2 y
        have S2 := gr.ss S'
        have s2 : Stp F' H' (Pf fp') F2 H2 (Pf fp') := gr.stp S'.sub
        have q2 := AtS.back (fp := fp') s2 q'
        rw [List.drop_eq_getElem_cons hlt] at q2
        refine ⟨e', F2, fp', ds[i], S2, r2, ?_⟩
        unfold AtS at q2
        simp only [loopS] at q2
        cases z2 : t ds[i] e' with
        | no => rw [z2] at q2; exact q2
        | ex _ _ _ => rw [z2] at q2; exact q2
        | ok _ e3 =>
          rw [z2] at q2
          dsimp only at q2 ⊢
          intro σ3 F3 H3 fp3 _ s3 S3
          refine ⟨e3, F3, fp3, S3, ?_⟩
          show OutS _ _ _ (g e3) _ _ _ _
          cases z3 : g e3 with
          | no => rw [z3] at q2; exact q2
          | ex C fs e4 => rw [z3] at q2; exact fun σ' F' H' fp' dx s => q2 σ' F' H' fp' dx (s3.trans s)
          | ok fl e4 =>
            rw [z3] at q2
            have again : ∀ σ4 F4 H4 fp4, Stp F3 H3 (Pf fp3) F4 H4 (Pf fp4) → SS X.K bv e4 σ4 F4 H4 fp4 → AtS X.K W bv (loopS t g (ds.drop (i + 1))) e4 σ' F2 H2 fp' D → ds.length - (i + 1) = ds.length - (i + 1) ∧ i + 1 ≤ ds.length ∧ ∃ e' F' fp', Sub F1 F' ∧ SS X.K bv e' σ4 F' H4 fp' ∧ AtS X.K W bv (loopS t g (ds.drop (i + 1))) e' σ4 F' H4 fp' D := fun σ4 F4 H4 fp4 s4 S4 q4 =>
              ⟨rfl, hlt, e4, F4, fp4, ((sub.trans s2.ext).trans s3.ext).trans s4.ext, S4, AtS.back (s3.trans s4) q4⟩
            cases fl with
            | nxt => exact fun σ4 F4 H4 fp4 s4 S4 => again σ4 F4 H4 fp4 s4 S4 q2
            | cnt => exact fun σ4 F4 H4 fp4 s4 S4 => again σ4 F4 H4 fp4 s4 S4 q2
            | brk => exact fun σ4 F4 H4 fp4 s4 S4 => q2 σ4 F4 H4 fp4 (s3.trans s4) S4
            | ret m => exact fun v σ4 F4 H4 fp4 P4 s4 S4 => q2 v σ4 F4 H4 fp4 P4 (s3.trans s4) S4
      · have ei : i = ds.length := by omega
        subst ei
        rw [List.drop_length] at q'
        exact .inl ⟨stop (Nat.le_refl _) (Nat.le_refl _), q' σ' F' H' fp' (Stp.refl _ _ _) S'⟩

/-! ### lists, tuples, texts, ranges -/
def itD : D → Option (List D)
  | .list ds => some ds
  | .tuple ds => some ds
  | .str x => some (x.cps.toList.map fun c => .str ⟨#[c]⟩)
  | _ => none
def itL : D → Option (List D)
  | .list ds => some ds
  | _ => none
def itT : D → Option (List D)
  | .tuple ds => some ds
  | _ => none
def itS : D → Option (List D)
  | .str x => some (x.cps.toList.map fun c => .str ⟨#[c]⟩)
  | _ => none
def itE (g : D → Option (List D)) (f : EM D) : EM (List D) := bnd f fun d => lif (g d)
theorem tI_bnd {K : PySem.W.Frag} {σ : L2.St} {H : Hp} {f : EM D} {k : D → Option (List D)} {R : It → Hp → Prop} (t : tI K W bv (itE k f) σ H R) :
    tE K W bv f σ H fun x H1 => ∃ d e1 F1 fp1 ds, SS K bv e1 σ F1 H1 fp1 ∧ Rp K F1 x d ∧ k d = some ds ∧ ∀ J F2 H2 fp2, Stp F1 H1 (Pf fp1) F2 H2 (Pf fp2) → SS K bv e1 σ F2 H2 fp2 → WalksD K J F2 ds → R J H2 := by
  obtain ⟨e, F, fp, S, q⟩ := t
  refine ⟨e, F, fp, S, ?_⟩
  unfold AtG
  unfold itE bnd at q
  cases z : f e with
  | no => rw [z] at q; exact q
  | ex C fs e' => rw [z] at q; exact q
  | ok d e1 =>
    rw [z] at q
    intro x F1 H1 fp1 P1 s1 S1 r1
    obtain ⟨rfl, r1⟩ := r1
    dsimp only at q
    cases z2 : k d with
    | none => rw [z2] at q; exact q.elim
    | some ds =>
      rw [z2] at q
      exact ⟨d, e1, F1, fp1, ds, S1, r1, z2, fun J F2 H2 fp2 s2 S2 w => q J F2 H2 fp2 (s1.trans s2) S2 w⟩
theorem di_list {tg : Expr} (h : DE X W bv a fa) : DI X W bv tg a (itE itL fa) :=
  pi_imp (pi_list h) fun σ H R t => tG.mono (tI_bnd t) fun x H1 ⟨d, e1, F1, fp1, ds, S1, r1, hk, q⟩ => by
    cases r1 with
    | lst hl rl =>
      cases hk
      refine ⟨_, rfl, ⟨_, S1.sub.l hl⟩, q _ F1 H1 fp1 (Stp.refl _ _ _) S1 fun F' H' i s1 s2 => ⟨fun d hd => ?_, fun h1 _ => ⟨_, s2.l (s1.l hl), by rw [rl.length]; exact h1⟩⟩⟩
      obtain ⟨v, hv, rv⟩ := rl.get hd
      exact ⟨⟨_, v, s2.l (s1.l hl), hv⟩, fun x H'' ⟨e1, y⟩ => ⟨F', .inl ⟨rfl, e1⟩, by
        have := y _ (s2.l (s1.l hl))
        rw [hv] at this
        cases this
        exact rv.mono s1⟩⟩
    | _ => cases hk
theorem di_tup {tg : Expr} (h : DE X W bv a fa) : DI X W bv tg a (itE itT fa) :=
  pi_imp (pi_tup h) fun σ H R t => tG.mono (tI_bnd t) fun x H1 ⟨d, e1, F1, fp1, ds, S1, r1, hk, q⟩ => by
    cases r1 with
    | tup hl rl =>
      cases hk
      refine ⟨_, rfl, ⟨_, S1.sub.t hl⟩, q _ F1 H1 fp1 (Stp.refl _ _ _) S1 fun F' H' i s1 s2 => ⟨fun d hd => ?_, fun h1 _ => ⟨_, (s1.trans s2).t hl, by rw [rl.length]; exact h1⟩⟩⟩
      obtain ⟨v, hv, rv⟩ := rl.get hd
      exact ⟨⟨_, v, (s1.trans s2).t hl, hv⟩, fun x H'' ⟨e1, y⟩ => ⟨F', .inl ⟨rfl, e1⟩, by
        have := y _ ((s1.trans s2).t hl)
        rw [hv] at this
        cases this
        exact rv.mono s1⟩⟩
    | _ => cases hk
theorem di_str {tg : Expr} (h : DE X W bv a fa) : DI X W bv tg a (itE itS fa) :=
  pi_imp (pi_str h) fun σ H R t => tG.mono (tI_bnd t) fun x H1 ⟨d, e1, F1, fp1, ds, S1, r1, hk, q⟩ => by
    cases r1 with
    | str z =>
      cases hk
      refine ⟨_, rfl, q _ F1 H1 fp1 (Stp.refl _ _ _) S1 fun F' H' i s1 s2 => ⟨fun d hd => ?_, fun h1 h2 => ?_⟩⟩
      · rw [List.getElem?_map] at hd
        obtain ⟨c, hc, rfl⟩ := Option.map_eq_some_iff.mp hd
        have hc' : z.cps[i]? = some c := by simpa using hc
        refine ⟨?_, fun x H'' ⟨e1, c', h1, h2⟩ => ⟨F', .inl ⟨rfl, e1⟩, ?_⟩⟩
        · exact (Array.getElem?_eq_some_iff.mp hc').1
        · rw [hc'] at h1
          cases h1
          subst h2
          exact .str _
      · show z.cps.size ≤ i
        simpa using h1
    | _ => cases hk
def rngDs (lo hi : Int) : List D := (List.range (hi - lo).toNat).map fun k => .int (lo + (k : Nat))
def small (i : Int) : Bool := decide (-(2 ^ 62) ≤ i) && decide (i < 2 ^ 62)
def rng1 : List D → Option (List D)
  | [.int j] => if small j then some (rngDs 0 j) else none
  | _ => none
def rng2 : List D → Option (List D)
  | [.int i, .int j] => if small i && small j then some (rngDs i j) else none
  | _ => none
theorem walks_rng {K : PySem.W.Frag} {F : Hp} {lo hi : Int} : WalksD K (Itr lo (hi - lo).toNat) F (rngDs lo hi) := fun F' H i s1 s2 => by
  have hl : (rngDs lo hi).length = (hi - lo).toNat := by simp [rngDs]
  refine ⟨fun d hd => ?_, fun h1 _ => by rw [hl] at h1; exact h1⟩
  unfold rngDs at hd
  rw [List.getElem?_map] at hd
  obtain ⟨k, hk, rfl⟩ := Option.map_eq_some_iff.mp hd
  have hk2 := List.getElem?_eq_some_iff.mp hk
  obtain ⟨h1, h2⟩ := hk2
  rw [List.getElem_range] at h2
  subst h2
  have h1' : i < (hi - lo).toNat := by
    rw [List.length_range] at h1
    exact h1
  refine ⟨h1', fun x H' ⟨e1, e2⟩ => ⟨F', .inl ⟨rfl, e1⟩, ?_⟩⟩
  subst e2
  exact .int _
def itA (g : List D → Option (List D)) (f : EM (List D)) : EM (List D) := bnd f fun ds => lif (g ds)
theorem tI_bndA {K : PySem.W.Frag} {σ : L2.St} {H : Hp} {f : EM (List D)} {k : List D → Option (List D)} {R : It → Hp → Prop} (t : tI K W bv (itA k f) σ H R) :
    tA K W bv f σ H fun x H1 => ∃ d e1 F1 fp1 ds, SS K bv e1 σ F1 H1 fp1 ∧ RpL K F1 x d ∧ k d = some ds ∧ ∀ J F2 H2 fp2, Stp F1 H1 (Pf fp1) F2 H2 (Pf fp2) → SS K bv e1 σ F2 H2 fp2 → WalksD K J F2 ds → R J H2 := by
  obtain ⟨e, F, fp, S, q⟩ := t
  refine ⟨e, F, fp, S, ?_⟩
  unfold AtG
  unfold itA bnd at q
  cases z : f e with
  | no => rw [z] at q; exact q
  | ex C fs e' => rw [z] at q; exact q
  | ok d e1 =>
    rw [z] at q
    intro x F1 H1 fp1 P1 s1 S1 r1
    obtain ⟨rfl, r1⟩ := r1
    dsimp only at q
    cases z2 : k d with
    | none => rw [z2] at q; exact q.elim
    | some ds =>
      rw [z2] at q
      exact ⟨d, e1, F1, fp1, ds, S1, r1, z2, fun J F2 H2 fp2 s2 S2 w => q J F2 H2 fp2 (s1.trans s2) S2 w⟩
theorem di_range1 {tg : Expr} {p : Pos} (hm : X.mg "range" = none) (ha : DA X W bv [a] fs) (hg : Gl X "range" := by rfl) (hs : starEach [a] X.env = [(false, eval a X.env)] := by rfl) : DI X W bv tg (.Call (.Name "range" p) [a] [] pos) (itA rng1 fs) :=
  pi_imp (pi_range1 hg hm ha hs) fun σ H R t => tG.mono (tI_bndA t) fun x H1 ⟨d, e1, F1, fp1, ds, S1, r1, hk, q⟩ => by
    unfold rng1 at hk
    split at hk
    · split at hk
      · rename_i j hj
        cases hk
        cases r1 with
        | cons r1 r =>
          cases r
          cases r1
          simp only [small, Bool.and_eq_true, decide_eq_true_eq] at hj
          refine ⟨j, rfl, hj.1, hj.2, q _ F1 H1 fp1 (Stp.refl _ _ _) S1 ?_⟩
          have := walks_rng (K := X.K) (F := F1) (lo := 0) (hi := j)
          rw [Int.sub_zero] at this
          exact this
      · cases hk
    · cases hk
theorem di_range2 {tg : Expr} {p : Pos} (hm : X.mg "range" = none) (ha : DA X W bv [a, b] fs) (hg : Gl X "range" := by rfl) (hs : starEach [a, b] X.env = [(false, eval a X.env), (false, eval b X.env)] := by rfl) (hs2 : starEach [b] X.env = [(false, eval b X.env)] := by rfl) : DI X W bv tg (.Call (.Name "range" p) [a, b] [] pos) (itA rng2 fs) :=
  pi_imp (pi_range2 hg hm ha hs hs2) fun σ H R t => tG.mono (tI_bndA t) fun x H1 ⟨d, e1, F1, fp1, ds, S1, r1, hk, q⟩ => by
    unfold rng2 at hk
    split at hk
    · split at hk
      · rename_i i j hj
        cases hk
        cases r1 with
        | cons r1 r =>
          cases r with
          | cons r2 r =>
            cases r
            cases r1
            cases r2
            simp only [small, Bool.and_eq_true, decide_eq_true_eq] at hj
            exact ⟨i, j, rfl, ⟨hj.1.1, hj.1.2, hj.2.1, hj.2.2⟩, q _ F1 H1 fp1 (Stp.refl _ _ _) S1 walks_rng⟩
      · cases hk
    · cases hk
end
end FD

/-! FD: a def's promise where no repr is under way (Around.guards is told), its body, its calls, the law's own call. -/
namespace FD
open PySem L2
open PyProof.Rows (AllBare)
section
variable (P : Program) (w : World) (K : PySem.W.Frag) (mg : Str → Option Value) (base : Heap)
/-- the def at f keeps the promise sp wherever no repr is under way; no exception leaves it -/
structure FnG (k : Nat) (f : Addr) (fd : FuncData) (ps : List Str) (sp : Sp) : Prop where
  len : ∀ vs H Q E, sp vs H Q E → vs.length = ps.length
  go : ∀ {A : Around} {outer : List PySem.Env} {s : Shared} {H : Hp} {args : Args} {us : List Value} {vs : List V} {Q : VK} {E : XK}, A.guards = some [] → Room k A →
    Env0 P w K mg base A outer s H → BindsTo s fd args (ps.zip us) → Vals vs us → sp vs H Q E → codeAny (model P w) A (.call (.ref f) args) (CR CX0 outer P w H s Q E) s
end
section
variable {P : Program} {w : World} {K : PySem.W.Frag} {mg : Str → Option Value} {base : Heap} {k : Nat} {f : Addr} {fd : FuncData} {ps : List Str} {sp : Sp}
theorem FnG.lift {j : Nat} (G : FnG P w K mg base j f fd ps sp) (h : j ≤ k) : FnG P w K mg base k f fd ps sp := ⟨G.len, fun hg hr => G.go hg (hr.mono h)⟩
/-- a def by its body -/
theorem fnG_of {x qual : Str} {st : Stmt} {N : List Str} (Fn : Fun K x qual st f fd) (Sc : FnScope N ps (defScope st)) (len : ∀ vs H Q E, sp vs H Q E → vs.length = ps.length)
    (body : ∀ (cd : Value) (A : Around) (outer : List PySem.Env) (s : Shared) (H : Hp) (vs : List V) (Q : VK) (E : XK), (A.deeper (PyProof.Rows.envOfC qual (defScope st) s.heap.objs.size f cd)).guards = some [] →
      Room k (A.deeper (PyProof.Rows.envOfC qual (defScope st) s.heap.objs.size f cd)) → sp vs H Q E →
      ∃ t, PSs (cxOf CX0 P w K mg base N qual (defScope st) f cd A outer s H E).nox (defBody st) t ∧ t { nx := fun _ H' => Q .non H', rt := Q } (L2.start N vs) H) :
    FnG P w K mg base (k + 1) f fd ps sp := by
  obtain ⟨oc, od, kV, doc, pm, an, cd, ct, sl, hfd, lk, code⟩ := Fn.ex
  refine ⟨len, fun {A outer s H args us vs Q E} hg hr en bi rv hs => ?_⟩
  have old : ∀ b o, base.get? b = some o → s.heap.get? b = some o := fun b o z => (en.bs b o z).1
  have kin : K.In s.heap := en.mod.kin.keeps old
  rw [hfd] at lk bi
  have names : ∀ y ∈ ps.zip us, (defScope st).names.lookup y.1 = some .local ∨ ((defScope st).names.lookup y.1 = some .cell ∧ ((cellsFrom (s.heap.objs.size + 1) (defScope st).names []).lookup y.1).isSome = true) := by
    intro y hy
    have hm : y.1 ∈ ps := (List.of_mem_zip (show (y.1, y.2) ∈ ps.zip us from hy)).1
    exact (Sc.par y.1 hm).imp id fun z => ⟨z, PySem.W.cellsFrom_some _ _ _ (.inl z)⟩
  refine codeAny_call_function hr.depth (kin f _ lk) rfl Sc.co Sc.gen rfl (PySem.W.codeRec_of kin code) (bi _ _ _ _ ?_)
  refine wpAny_newFunctionEnv_cells Sc.kind names fun env he s1 ic => ?_
  subst he
  refine ⟨(en.mod.nolimit.keeps old).keeps ic.toInCall.keep, codeAny_func ?_⟩
  obtain ⟨t, ht, hq⟩ := body cd A outer s H vs Q E hg (hr.deeper _) hs
  have I : Inv (cxOf CX0 P w K mg base N qual (defScope st) f cd A outer s H E) [] (L2.start N vs) H s1 := inv_start Sc hr.hd en (len vs H Q E hs) rv ic
  refine wpAny_mono (ht.nox.run [] s1 (L2.start N vs) H _ I hq) ?_ fun _ _ z => z
  intro fl s' z
  cases fl with
  | ret u =>
    obtain ⟨v, σ', H', J, r, q⟩ := z
    exact ⟨v, H', J.os, J.bare, J.base, J.hok, r, q⟩
  | next =>
    obtain ⟨σ', H', J, q⟩ := z
    exact ⟨V.non, H', J.os, J.bare, J.base, J.hok, rfl, q⟩
  | brk => exact z.elim fun _ z => z.elim fun _ z => z.2.elim
  | cont => exact z.elim fun _ z => z.elim fun _ z => z.2.elim
end
section
variable {X : Cx} {k : Nat} {f : Addr} {fd : FuncData} {ps : List Str} {sp : Sp} {E : XK} {x : Str} {p pos : Pos} {e : Expr} {es : List Expr} {t : TA}
theorem goG {pins : List (Addr × Obj)} {σ : L2.St} {H : Hp} {s : Shared} {Q : VK} {us : List Value} {vs : List V} {args : Args} (G : FnG X.prog X.w X.K X.mg X.base k f fd ps sp) (hg : X.A.guards = some []) (hr : Room k X.A) (I : Inv X pins σ H s)
    (bi : BindsTo s fd args (ps.zip us)) (rv : Vals vs us) (h : sp vs H Q E) : codeAny (model X.prog X.w) X.A (.call (.ref f) args) (callEnd (EP X pins σ Q) X.xe) s := by
  refine codeAny_mono (G.go hg hr I.env0 bi rv h) fun r s' z => ?_
  cases r with
  | error _ => exact z.elim
  | ok fl =>
    cases fl with
    | ret u => exact I.after z
    | _ => exact z.elim
/-- f(e, ..) -/
theorem pe_callG (G : FnG X.prog X.w X.K X.mg X.base k f fd ps sp) (hg : X.A.guards = some []) (hr : Room k X.A) (gl : Gl X x) (hm : X.mg x = some (.ref f)) (hk : PySem.W.keepIn X.K (.ref f) = true) (hb : Binds X.K fd ps []) (ha : PA X (e :: es) t)
    (db : (x == ("__debug__" : Str)) = false) (he : starEach (e :: es) X.env = (false, eval e X.env) :: starEach es X.env) (hp : (backTo pos (starEach es X.env)).any (·.1) = false) :
    PE X (.Call (.Name x p) (e :: es) [] pos) (fun σ H Q => t σ H fun vs H1 => sp vs H1 Q E) := by
  refine ⟨fun pins s σ H Q I h => wpAny_Call_Name_kw (ld_glob I gl hm (PySem.W.callWith_K (h₀ := X.base) I.ok.mod.kin hk ?_ he hp) db)⟩
  refine thn (ha.run pos pins s σ H _ I h) ?_
  rintro us s1 ⟨vs, H1, I1, r, q⟩
  have hl : us.length = ps.length := r.length.symm.trans (G.len _ _ _ _ q)
  have bi := hb s1 us I1.kIn (by rw [List.append_nil]; exact hl)
  rw [List.append_nil] at bi
  exact ⟨I1.kIn, wpAny_call (goG (E := E) G hg hr I1 bi r q)⟩
theorem pe_call0G (G : FnG X.prog X.w X.K X.mg X.base k f fd ps sp) (hg : X.A.guards = some []) (hr : Room k X.A) (gl : Gl X x) (hm : X.mg x = some (.ref f)) (hk : PySem.W.keepIn X.K (.ref f) = true) (hb : Binds X.K fd ps [])
    (db : (x == ("__debug__" : Str)) = false) : PE X (.Call (.Name x p) [] [] pos) (fun σ H Q => sp [] H Q E) := by
  refine ⟨fun pins s σ H Q I h => wpAny_Call_Name_kw (ld_glob I gl hm (PySem.W.callWith_K0 I.kIn hk ?_) db)⟩
  have bi := hb s [] I.kIn (by rw [List.append_nil]; exact (G.len _ _ _ _ h))
  rw [List.append_nil] at bi
  exact wpAny_call (goG (E := E) G hg hr I bi .nil h)
end

/-! ### the law's own call -/
section
variable {P : Program} {w : World} {K : PySem.W.Frag} {mg mb : Str → Option Value} {k : Nat} {fa a : Addr} {fd : FuncData} {x : Str} {sp : Sp} {s : Shared} {us : List Value} {ns : List Int}
theorem law_from {H : Hp} (kin : K.In s.heap) (gl : s.heap.Ns mainGlobals mg) (bl : s.heap.Ns builtinsNs mb) (bb : ∀ x : Str, x ≠ "__name__" → mb x = bootBuiltins x) (li : s.heap.NoLimit) (gn : s.gens = #[])
    (hr : Room k callerA) (F : ∀ base : Heap, K.In base → base.Ns mainGlobals mg → FnG P w K mg base k fa fd [x] sp) (hb : ∀ (s : Shared) (u : Value), BindsTo s fd ⟨[u], []⟩ [(x, u)])
    (hs : sp [.ref a] H (fun v _ => v = .bl true) fun _ _ _ => False) (ok : HOk P w H s.heap) (own : ∀ b o, H b = some o → (∃ ob, o = .frz ob (.lst (ns.map V.int))) ∧ b = a) (out : ∀ b o, H b = some o → K.lookup b = none)
    (nd : ∀ o, s.heap.get? a = some o → ∀ es ep, o.data ≠ .dict es ep) :
    codeAny (model P w) callerA (.call (.ref fa) ⟨[.ref a], []⟩) (fun r s' => r = .ok (.ret (.bool true)) ∧ OldK s.heap s'.heap ∧ s'.os = s.os ∧ AllBare s'.gens) s := by
  have free : ∀ {b : Addr} {o : Obj} {es : Array DictEntry} {ep : Nat}, s.heap.get? b = some o → o.data = .dict es ep → H b = none := by
    intro b o es ep h1 h2
    cases q : H b with
    | none => rfl
    | some u =>
      have := (own b u q).2
      subst this
      exact absurd h2 (nd o h1 es ep)
  have hid : ∀ {b : Addr} {m : Str → Option Value}, s.heap.Ns b m → (hidT s.heap H).Ns b m := by
    rintro b m ⟨o, es, ep, h1, h2, h3⟩
    exact ⟨o, es, ep, hidT_get h1 (free h1 h2), h2, h3⟩
  have kb : K.In (hidT s.heap H) := by
    intro b o z
    refine hidT_get (kin b o z) ?_
    cases q : H b with
    | none => rfl
    | some u => rw [out b u q] at z; cases z
  have md : Mod K mg (hidT s.heap H) := by
    obtain ⟨mc, l1, l2⟩ := li
    exact ⟨kb, hid gl, ⟨mb, hid bl, bb⟩, ⟨mc, hid l1, l2⟩⟩
  have en : Env0 P w K mg (hidT s.heap H) callerA [] s H := by
    refine ⟨rfl, md, fun b o z => of_hidT z, Nat.le_of_eq (hidT_size _ _), trivial, fun b z => ?_, ok, .of_eq gn⟩
    cases (show b ∈ ([] : List Addr) from z)
  refine codeAny_mono ((F _ kb (hid gl)).go (us := [.ref a]) (vs := [.ref a]) rfl hr en (hb s (.ref a)) (.cons rfl .nil) hs) ?_
  intro r s' z
  cases r with
  | error _ => exact z.elim
  | ok fl =>
    cases fl with
    | ret u =>
      obtain ⟨v, H', h1, h2, un, ok', rv, q⟩ := z
      rw [show v = .bl true from q] at rv
      rw [show u = Value.bool true from rv]
      refine ⟨rfl, OldK.of_keep fun b o z => ?_, h1, h2⟩
      cases q : H b with
      | none => exact un.keep b o z q (fun y => by cases (show b ∈ ([] : List Addr) from y)) (by simp)
      | some u =>
        obtain ⟨⟨ob, e1⟩, _⟩ := own b u q
        subst e1
        have y1 := (ok b _ q).1
        have y2 := (ok' b _ (un.frzs b ob _ q)).1
        rw [y1] at z
        cases z
        exact y2
    | _ => exact z.elim
theorem walk_G {l : PySem.W.OpenLaw} {n k : Nat} {q : Program} {loose : List Str} {XP : (Str → Option Value) → Heap → Prop} {YP : World → Heap → Prop} {d : DefRec} {K : Params → PySem.W.Frag} {sp : PySem.W.Frag → Sp} {x : Str} (hn : l.most = some n) (hz : n ≤ sizeLine) (hdf : d.params.defaults = []) (hr : Room k callerA)
    (hY : ∀ (w : World) (h : Heap), YP w h → (K w.params).In h)
    (F : ∀ (w : World) (mg : Str → Option Value) (fa : Addr) (h : Heap), (K w.params).In h → h.Ns mainGlobals mg → mg d.name = some (.ref fa) → ∃ fd : FuncData, (∀ (s : Shared) (u : Value), BindsTo s fd ⟨[u], []⟩ [(x, u)]) ∧
      ∀ base : Heap, (K w.params).In base → base.Ns mainGlobals mg → FnG l.prog w (K w.params) mg base k fa fd [x] (sp (K w.params)))
    (hs : ∀ (K : PySem.W.Frag) (H : Hp) (a : Addr) (ns : List Int), ns.length ≤ n → SqL K H a (ns.map V.int) → sp K [.ref a] H (fun v _ => v = .bl true) fun _ _ _ => False) :
    PySem.W.WalkO q loose XP YP l.row.toRowW d [] (fun f vs => PySem.call f vs) := by
  refine Att.attach_call hn hdf ?_
  intro w s₀ s mg mb fa o pm cd doc a vs ns G Y _ _ _ hmg ho hi hl hg
  obtain ⟨fd, hb, hF⟩ := F w mg fa s.heap (hY w _ Y) G.T.g hmg
  have rv := vals_ints hi
  have nd : ∀ o, s.heap.get? a = some o → ∀ es ep, o.data ≠ .dict es ep := by
    intro o z es ep y
    rw [ho] at z
    cases z
    cases y
  cases hk : (K w.params).lookup a with
  | some o' =>
    have e := hY w _ Y a o' hk
    rw [ho] at e
    cases e
    refine law_from (H := fun _ => none) (ns := ns) (hY w _ Y) G.T.g G.T.b G.T.builtins G.T.nolimit hg hr hF hb (hs _ _ a ns hl (.inr ⟨_, vs.toArray, _, hk, rfl, rfl, rfl, ?_, by simpa using rv⟩)) (fun b o z => ?_) (fun b o z => ?_) (fun b o z => ?_) nd
    · rw [List.size_toArray, hi.length]
      exact Nat.le_trans hl hz
    · cases (show (none : Option HO) = some o from z)
    · cases (show (none : Option HO) = some o from z)
    · cases (show (none : Option HO) = some o from z)
  | none =>
    have at_ : ∀ b o, (upd (fun _ => none) a (.frz { cls := .type "list", data := .seq vs.toArray } (.lst (ns.map V.int))) : Hp) b = some o → o = .frz { cls := .type "list", data := .seq vs.toArray } (.lst (ns.map V.int)) ∧ b = a := by
      intro b o z
      by_cases hb : b = a
      · rw [hb, upd_same] at z
        exact ⟨(Option.some.inj z).symm, hb⟩
      · rw [upd_ne hb] at z
        cases (show (none : Option HO) = some o from z)
    refine law_from (H := upd (fun _ => none) a (.frz { cls := .type "list", data := .seq vs.toArray } (.lst (ns.map V.int)))) (ns := ns) (hY w _ Y) G.T.g G.T.b G.T.builtins G.T.nolimit hg hr hF hb (hs _ _ a ns hl (.inl (.inr ⟨_, upd_same⟩))) (fun b o z => ?_) (fun b o z => ⟨⟨_, (at_ b o z).1⟩, (at_ b o z).2⟩) (fun b o z => by rw [(at_ b o z).2]; exact hk) nd
    obtain ⟨h1, h2⟩ := at_ b o z
    subst h1 h2
    exact ⟨ho, by rw [List.length_map]; exact Nat.le_trans hl hz, vs, _, rv, ho⟩
end
end FD

/-! FD: defs and their calls. -/
namespace FD
open PySem L2
inductive FOut where
  | ok (r : M) (ms : List M)
  | ex (C : Addr) (fs : List (Str × D)) (ms : List M)
  | no
def isIm : M → Bool
  | .im _ => true
  | _ => false
def args0 (n : Nat) (ms : List M) : Env := ms.map some ++ List.replicate (n - ms.length) none
/-- what the arguments are behind the call: those at B as the body leaves them, the others data -/
def backs (B : List Nat) (e' : Env) : Nat → List M → Option (List M)
  | _, [] => some []
  | i, m :: ms => if B.contains i then (match e'[i]? with
      | some (some m') => (backs B e' (i + 1) ms).map (m' :: ·)
      | _ => none) else if isIm m then (backs B e' (i + 1) ms).map (m :: ·) else none
def endF (B : List Nat) (ms : List M) (o : Out Flow) : FOut := match o with
  | .ok (.ret r) e' => match backs B e' 0 ms with
    | some ms' => .ok r ms'
    | none => .no
  | .ok .nxt e' => match backs B e' 0 ms with
    | some ms' => .ok (.im .none) ms'
    | none => .no
  | _ => .no
/-- a def of np parameters, nN names in all, B: the parameters that it may change, g: its body -/
def defF (np nN : Nat) (B : List Nat) (g : EM Flow) (ms : List M) : FOut := if ms.length = np then endF B ms (g (args0 nN ms)) else .no

def bv0 : Nat → Option V := fun _ => none
def W0 : WX := fun _ _ _ _ => False
def bvB (B : List Nat) (vs : List V) : Nat → Option V := fun i => if B.contains i then vs[i]? else none
/-- the promise of a def -/
def spF (K : PySem.W.Frag) (Fs : List M → FOut) : Sp := fun vs H Q E => ∃ ms F fp, SS K bv0 (ms.map some) (vs.map some) F H fp ∧ match Fs ms with
  | .ok r ms' => ∀ v F' H' fp' P', Stp F H (Pf fp) F' H' P' → SS K bv0 (ms'.map some) (vs.map some) F' H' fp' → (∃ fpr : List Addr, (∀ a, Pf fp' a ∨ a ∈ fpr → P' a) ∧ Own K F' H' v r fpr ∧ fpr.Nodup ∧ (∀ a ∈ fpr, ¬ Pf fp' a) ∧ ∀ a ∈ fpr, F' a = none) → Q v H'
  | .ex C fs ms' => ∀ F' H' fp' dx, Stp F H (Pf fp) F' H' (Pf fp') → SS K bv0 (ms'.map some) (vs.map some) F' H' fp' → XRep K F' fs dx → E (.ref C) dx H'
  | .no => False
theorem backs_len {B : List Nat} {e' : Env} : ∀ {i : Nat} {ms ms' : List M}, backs B e' i ms = some ms' → ms'.length = ms.length
  | _, [], _, h => by cases h; rfl
  | i, m :: ms, ms', h => by
    unfold backs at h
    split at h
    · split at h
      · obtain ⟨r, h1, rfl⟩ := Option.map_eq_some_iff.mp h
        rw [List.length_cons, List.length_cons, backs_len h1]
      · cases h
    · split at h
      · obtain ⟨r, h1, rfl⟩ := Option.map_eq_some_iff.mp h
        rw [List.length_cons, List.length_cons, backs_len h1]
      · cases h
theorem backs_get {B : List Nat} {e' : Env} : ∀ {i : Nat} {ms ms' : List M} {j : Nat} {m' : M}, backs B e' i ms = some ms' → ms'[j]? = some m' → (B.contains (i + j) = true ∧ e'[i + j]? = some (some m')) ∨ (B.contains (i + j) = false ∧ ms[j]? = some m' ∧ isIm m' = true)
  | _, [], _, _, _, h, q => by cases h; simp at q
  | i, m :: ms, ms', j, m', h, q => by
    unfold backs at h
    split at h
    · rename_i hB
      split at h
      · rename_i m1 he
        obtain ⟨r, h1, rfl⟩ := Option.map_eq_some_iff.mp h
        cases j with
        | zero =>
          simp at q
          subst q
          exact .inl ⟨hB, he⟩
        | succ j =>
          have := backs_get (j := j) (m' := m') h1 (by simpa using q)
          rw [show i + 1 + j = i + (j + 1) by omega] at this
          simpa using this
      · cases h
    · rename_i hB
      split at h
      · rename_i hm
        obtain ⟨r, h1, rfl⟩ := Option.map_eq_some_iff.mp h
        cases j with
        | zero =>
          simp at q
          subst q
          exact .inr ⟨by simpa using hB, by simp, hm⟩
        | succ j =>
          have := backs_get (j := j) (m' := m') h1 (by simpa using q)
          rw [show i + 1 + j = i + (j + 1) by omega] at this
          simpa using this
      · cases h
/-- the entry -/
theorem SS.entry {K : PySem.W.Frag} {ms : List M} {vs : List V} {F H : Hp} {fp : Nat → List Addr} {N : List Str} {B : List Nat} (S : SS K bv0 (ms.map some) (vs.map some) F H fp) (hl : vs.length ≤ N.length) : SS K (bvB B vs) (args0 N.length ms) (L2.start N vs) F H fp := by
  have hlen : ms.length = vs.length := by simpa using S.len
  have lt : ∀ {i : Nat} {x : Option M}, (args0 N.length ms)[i]? = some x → x ≠ none → i < ms.length := fun {i x} h n => by
    by_cases hi : i < ms.length
    · exact hi
    · unfold args0 at h
      rw [List.getElem?_append_right (by simpa using hi), List.getElem?_replicate] at h
      split at h
      · cases h; exact absurd rfl n
      · cases h
  have ge : ∀ {i : Nat}, i < ms.length → (args0 N.length ms)[i]? = (ms.map some)[i]? := fun {i} hi => by
    unfold args0
    rw [List.getElem?_append_left (by simpa using hi)]
  have gs : ∀ {i : Nat}, i < vs.length → (L2.start N vs)[i]? = (vs.map some)[i]? := fun {i} hi => by
    unfold L2.start
    rw [List.getElem?_append_left (by simpa using hi)]
  refine ⟨S.sub, fun i m h => ?_, fun i a h => ?_, S.nd, S.dj, S.fr, fun i v h => ?_, ?_⟩
  · have hi := lt h (by simp)
    rw [ge hi] at h
    rw [gs (by omega)]
    exact S.own i m h
  · obtain ⟨m, q⟩ := S.nil i a h
    have hi : i < ms.length := by
      have := (List.getElem?_eq_some_iff.mp q).1
      simpa using this
    rw [ge hi]
    exact ⟨m, q⟩
  · unfold bvB at h
    split at h
    · have hi := (List.getElem?_eq_some_iff.mp h).1
      rw [gs hi, List.getElem?_map, h]
      rfl
    · cases h
  · unfold args0 L2.start
    simp only [List.length_append, List.length_map, List.length_replicate]
    omega
def fpB (B : List Nat) (n : Nat) (fp : Nat → List Addr) : Nat → List Addr := fun i => if B.contains i && decide (i < n) then fp i else []
theorem mem_fpB {B : List Nat} {n : Nat} {fp : Nat → List Addr} {i : Nat} {a : Addr} (h : a ∈ fpB B n fp i) : a ∈ fp i ∧ B.contains i = true ∧ i < n := by
  unfold fpB at h
  split at h
  · rename_i hc
    rw [Bool.and_eq_true, decide_eq_true_eq] at hc
    exact ⟨h, hc.1, hc.2⟩
  · cases h
theorem fpB_in {B : List Nat} {n : Nat} {fp : Nat → List Addr} {i : Nat} (h1 : B.contains i = true) (h2 : i < n) : fpB B n fp i = fp i := by
  unfold fpB
  rw [if_pos (by rw [h1, decide_eq_true h2]; rfl)]
theorem fpB_out {B : List Nat} {n : Nat} {fp : Nat → List Addr} {i : Nat} (h1 : B.contains i = false) : fpB B n fp i = [] := by
  unfold fpB
  rw [if_neg (by rw [h1]; exact Bool.false_ne_true)]
/-- the end: what the caller sees of the arguments -/
theorem SS.leave {K : PySem.W.Frag} {ms ms' : List M} {vs : List V} {F H F' H' : Hp} {fp fp' : Nat → List Addr} {N : List Str} {B : List Nat} {e' : Env} {σ' : L2.St} (S : SS K bv0 (ms.map some) (vs.map some) F H fp) (s : Sub F F') (S' : SS K (bvB B vs) e' σ' F' H' fp') (hb : backs B e' 0 ms = some ms') :
    SS K bv0 (ms'.map some) (vs.map some) F' H' (fpB B ms.length fp') := by
  have hlen : ms.length = vs.length := by simpa using S.len
  have hl' := backs_len hb
  refine ⟨S'.sub, fun i m h => ?_, fun i a h => ?_, fun i => ?_, fun i j a h1 h2 => S'.dj i j a (mem_fpB h1).1 (mem_fpB h2).1, fun i a h => S'.fr i a (mem_fpB h).1, fun i v h => (by cases h), by rw [List.length_map, List.length_map, hl', hlen]⟩
  · rw [List.getElem?_map] at h
    obtain ⟨m1, h1, h2⟩ := Option.map_eq_some_iff.mp h
    cases h2
    have hi : i < ms.length := by
      have := (List.getElem?_eq_some_iff.mp h1).1
      omega
    have hv : (vs.map some)[i]? = some (some (vs[i]'(by omega))) := by
      rw [List.getElem?_map, List.getElem?_eq_getElem (by omega)]
      rfl
    rcases backs_get hb h1 with ⟨hB, q⟩ | ⟨hB, q, hm⟩
    · rw [Nat.zero_add] at hB q
      obtain ⟨v, q1, o⟩ := S'.own i m q
      have q2 := S'.bor i (vs[i]'(by omega)) (by unfold bvB; rw [if_pos hB]; exact List.getElem?_eq_getElem _)
      rw [q1] at q2
      cases q2
      refine ⟨_, hv, ?_⟩
      rw [fpB_in hB hi]
      exact o
    · rw [Nat.zero_add] at hB
      obtain ⟨v, q1, o⟩ := S.own i m (by rw [List.getElem?_map, q]; rfl)
      rw [fpB_out hB]
      refine ⟨v, q1, ?_⟩
      cases m with
      | im d =>
        generalize fp i = l at o
        cases o with
        | im r => exact .im (r.mono s)
      | _ => cases hm
  · have hi := (mem_fpB h).2.2
    exact ⟨ms'[i]'(by omega), by rw [List.getElem?_map, List.getElem?_eq_getElem (by omega)]; rfl⟩
  · unfold fpB
    split
    · exact S'.nd i
    · exact List.nodup_nil
section
variable {P : Program} {w : World} {K : PySem.W.Frag} {mg : Str → Option Value} {base : Heap}
theorem defF_len {np nN : Nat} {B : List Nat} {g : EM Flow} {ms : List M} (h : defF np nN B g ms ≠ .no) : ms.length = np := by
  unfold defF at h
  split at h
  · assumption
  · exact absurd rfl h
theorem spF_len {Fs : List M → FOut} {np : Nat} (hF : ∀ ms, Fs ms ≠ .no → ms.length = np) : ∀ vs H Q E, spF K Fs vs H Q E → vs.length = np := fun vs H Q E ⟨ms, F, fp, S, q⟩ => by
  have hlen : ms.length = vs.length := by simpa using S.len
  rw [← hlen]
  refine hF ms fun z => ?_
  rw [z] at q
  exact q
/-- a def without exceptions -/
theorem fn_F {x qual : Str} {st : Stmt} {f : Addr} {fd : FuncData} {N ps : List Str} {k : Nat} {B : List Nat} {g : EM Flow} (Fn : Fun K x qual st f fd) (Sc : FnScope N ps (defScope st))
    (hbody : ∀ (cdv : Value) (A : Around) (outer : List PySem.Env) (s : Shared) (H : Hp) (vs : List V) (E : XK), (A.deeper (PyProof.Rows.envOfC qual (defScope st) s.heap.objs.size f cdv)).guards = some [] →
      Room k (A.deeper (PyProof.Rows.envOfC qual (defScope st) s.heap.objs.size f cdv)) →
      DSs (cxOf CX0 P w K mg base N qual (defScope st) f cdv A outer s H E).nox W0 (bvB B vs) (defBody st) g) :
    FnG P w K mg base (k + 1) f fd ps (spF K (defF ps.length N.length B g)) := by
  have hpl : ps.length ≤ N.length := by have := congrArg List.length Sc.pre; rw [List.length_take] at this; omega
  refine fnG_of Fn Sc (spF_len fun ms h => defF_len h) fun cdv A outer s H vs Q E hg hr h => ?_
  refine ⟨_, hbody cdv A outer s H vs E hg hr, ?_⟩
  obtain ⟨ms, F, fp, S, q⟩ := h
  have hlen : ms.length = vs.length := by simpa using S.len
  unfold defF at q
  by_cases hn : ms.length = ps.length
  · rw [if_pos hn] at q
    refine ⟨args0 N.length ms, F, fp, S.entry (by omega), ?_⟩
    show OutS _ _ _ (g (args0 N.length ms)) _ _ _ _
    cases z : g (args0 N.length ms) with
    | no => rw [z] at q; exact q
    | ex C fs e' => rw [z] at q; exact q.elim
    | ok fl e' =>
      rw [z] at q
      have fin : ∀ (r : M) (ms' : List M), backs B e' 0 ms = some ms' → (∀ v F' H' fp' P', Stp F H (Pf fp) F' H' P' → SS K bv0 (ms'.map some) (vs.map some) F' H' fp' → (∃ fpr : List Addr, (∀ a, Pf fp' a ∨ a ∈ fpr → P' a) ∧ Own K F' H' v r fpr ∧ fpr.Nodup ∧ (∀ a ∈ fpr, ¬ Pf fp' a) ∧ ∀ a ∈ fpr, F' a = none) → Q v H') →
          ∀ v σ' F' H' fp' P', Stp F H (Pf fp) F' H' P' → SS K (bvB B vs) e' σ' F' H' fp' → rM K F' H' fp' P' v r → Q v H' := fun r ms' hb q v σ' F' H' fp' P' s' S' ⟨fpr, hP, o, nd, dj, fr⟩ => by
        have sub : ∀ a, Pf (fpB B ms.length fp') a → Pf fp' a := fun a ⟨i, hi⟩ => ⟨i, (mem_fpB hi).1⟩
        refine q v F' H' _ P' s' (S.leave (N := N) s'.ext S' hb) ⟨fpr, fun a ha => ?_, o, nd, fun a ha z => dj a ha (sub a z), fr⟩
        rw [hP]
        rcases ha with ha | ha
        · exact .inl (sub a ha)
        · exact .inr ha
      cases fl with
      | nxt =>
        unfold endF at q
        dsimp only at q
        cases hb : backs B e' 0 ms with
        | none => rw [hb] at q; exact q.elim
        | some ms' =>
          rw [hb] at q
          exact fun σ' F' H' fp' s' S' => fin (.im .none) ms' hb q .non σ' F' H' fp' (Pf fp') s' S' (rM_im .non)
      | ret r =>
        unfold endF at q
        dsimp only at q
        cases hb : backs B e' 0 ms with
        | none => rw [hb] at q; exact q.elim
        | some ms' =>
          rw [hb] at q
          exact fin r ms' hb q
      | brk => exact q.elim
      | cnt => exact q.elim
  · rw [if_neg hn] at q
    exact q.elim
end

/-! ### calls -/
/-- an argument: data, or a slot whose thing the callee may change -/
inductive AR where
  | d (d : D)
  | b (s : Nat)
def rAR (K : PySem.W.Frag) (σ : L2.St) : Hp → List V → List AR → Prop
  | _, [], [] => True
  | F, x :: xs, .d d :: as => Rp K F x d ∧ rAR K σ F xs as
  | F, x :: xs, .b s :: as => σ[s]? = some (some x) ∧ rAR K σ F xs as
  | _, _, _ => False
def tR (K : PySem.W.Frag) (W : WX) (bv : Nat → Option V) (f : EM (List AR)) : TA := fun σ H Q => tG K W bv (smp (rAR K σ)) f σ H Q
abbrev DR (X : Cx) (W : WX) (bv : Nat → Option V) (es : List Expr) (f : EM (List AR)) : Prop := PA X es (tR X.K W bv f)
def arN : EM (List AR) := ret []
def arD (f : EM D) (g : EM (List AR)) : EM (List AR) := bnd f fun d => bnd g fun as => ret (.d d :: as)
def arB (s : Nat) (g : EM (List AR)) : EM (List AR) := fun e => match e[s]? with
  | some (some _) => bnd g (fun as => ret (.b s :: as)) e
  | _ => .no
section
variable {X : Cx} {W : WX} {bv : Nat → Option V} {pos : Pos} {a : Expr} {es : List Expr} {fa : EM D} {fr : EM (List AR)}
theorem dr_nil : DR X W bv [] arN := pa_imp pa_nil fun σ H Q ⟨e, F, fp, S, q⟩ => AtG.here (r := rAR X.K σ) S q trivial
theorem dr_d (h : DE X W bv a fa) (hr : DR X W bv es fr) (hs : starEach (a :: es) X.env = (false, eval a X.env) :: starEach es X.env := by rfl) : DR X W bv (a :: es) (arD fa fr) :=
  pa_imp (pa_cons h hr hs) fun σ H Q t => by
    refine tG.mono (tG.bnd (r := rD X.K) t) fun x H1 ⟨d, e1, F1, fp1, S1, r1, q1⟩ => ?_
    refine tG.mono (AtG.bnd' (r := rAR X.K σ) S1 q1) fun xs H2 ⟨as, e2, F2, fp2, s2, S2, r2, q2⟩ => ?_
    exact AtG.here (r := rAR X.K σ) S2 q2 ⟨Rp.mono s2 r1, r2⟩
theorem dr_b (s : Nat) {x : Str} (hr : DR X W bv es fr) (hN : X.N[s]? = some x := by rfl) (hv : Vis X.env.scope x := by first | exact Or.inl rfl | exact Or.inr (Or.inl rfl) | exact Or.inr (Or.inr rfl)) (hd : (x == ("__debug__" : Str)) = false := by decide)
    (hcd : (x == ("__classdict__" : Str)) = false := by decide) (hs : starEach (.Name x pos :: es) X.env = (false, eval (.Name x pos) X.env) :: starEach es X.env := by rfl) : DR X W bv (.Name x pos :: es) (arB s fr) :=
  pa_imp (pa_cons (pe_var hN hv hd hcd) hr hs) fun σ H Q t => by
    obtain ⟨e, F, fp, S, q⟩ := t
    cases he : e[s]? with
    | none => unfold AtG arB at q; rw [he] at q; exact q.elim
    | some o =>
      cases o with
      | none => unfold AtG arB at q; rw [he] at q; exact q.elim
      | some m =>
        obtain ⟨v, hv, _⟩ := S.own s m he
        refine ⟨v, hv, ?_⟩
        have q : AtG X.K W bv (smp (rAR X.K σ)) (bnd fr fun as => ret (.b s :: as)) e σ F H fp Q := by
          unfold AtG arB at q
          rw [he] at q
          exact q
        refine tG.mono (AtG.bnd' (r := rAR X.K σ) S q) fun xs H2 ⟨as, e2, F2, fp2, s2, S2, r2, q2⟩ => ?_
        exact AtG.here (r := rAR X.K σ) S2 q2 ⟨hv, r2⟩
def slotsOf : List AR → List Nat
  | [] => []
  | .d _ :: r => slotsOf r
  | .b s :: r => s :: slotsOf r
def argM (e : Env) : List AR → Option (List M)
  | [] => some []
  | .d d :: r => (argM e r).map (.im d :: ·)
  | .b s :: r => match e[s]? with
    | some (some m) => (argM e r).map (m :: ·)
    | _ => none
def putB (e : Env) : List AR → List M → Env
  | .b s :: r, m :: ms => (putB e r ms).set s (some m)
  | .d _ :: r, _ :: ms => putB e r ms
  | _, _ => e
/-- a call -/
def callM (Fs : List M → FOut) (fr : EM (List AR)) : EM M := bnd fr fun as e => if (slotsOf as).Nodup then (match argM e as with
  | none => .no
  | some ms => match Fs ms with
    | .ok r ms' => if ms'.length = ms.length then .ok r (putB e as ms') else .no
    | _ => .no) else .no
def callD (Fs : List M → FOut) (fr : EM (List AR)) : EM D := bnd (callM Fs fr) fun m => lif m.toD
theorem putB_len {e : Env} : ∀ {as : List AR} {ms : List M}, (putB e as ms).length = e.length
  | [], _ => rfl
  | .d _ :: _, [] => rfl
  | .b _ :: _, [] => rfl
  | .d _ :: r, _ :: ms => putB_len (as := r)
  | .b s :: r, m :: ms => by
    show ((putB e r ms).set s (some m)).length = _
    rw [List.length_set, putB_len (as := r)]
theorem putB_out {e : Env} {i : Nat} : ∀ {as : List AR} {ms : List M}, i ∉ slotsOf as → (putB e as ms)[i]? = e[i]?
  | [], _, _ => rfl
  | .d _ :: _, [], _ => rfl
  | .b _ :: _, [], _ => rfl
  | .d _ :: r, _ :: ms, h => putB_out (as := r) h
  | .b s :: r, m :: ms, h => by
    show ((putB e r ms).set s (some m))[i]? = _
    simp only [slotsOf, List.mem_cons, not_or] at h
    rw [List.getElem?_set_ne (Ne.symm h.1), putB_out (as := r) h.2]
theorem slots_ix {i : Nat} : ∀ {as : List AR}, i ∈ slotsOf as → ∃ j : Nat, as[j]? = some (AR.b i)
  | [], h => by cases h
  | .d _ :: r, h => by
    obtain ⟨j, q⟩ := slots_ix (as := r) h
    exact ⟨j + 1, by simpa using q⟩
  | .b s :: r, h => by
    rcases List.mem_cons.mp h with rfl | h
    · exact ⟨0, rfl⟩
    · obtain ⟨j, q⟩ := slots_ix (as := r) h
      exact ⟨j + 1, by simpa using q⟩
theorem ix_slots {i : Nat} : ∀ {as : List AR} {j : Nat}, as[j]? = some (.b i) → i ∈ slotsOf as
  | [], _, h => by simp at h
  | .d _ :: r, 0, h => by simp at h
  | .b s :: r, 0, h => by
    simp at h
    subst h
    exact List.mem_cons_self
  | .d _ :: r, j + 1, h => ix_slots (as := r) (j := j) (by simpa using h)
  | .b s :: r, j + 1, h => List.mem_cons_of_mem _ (ix_slots (as := r) (j := j) (by simpa using h))
theorem slots_inj {i : Nat} : ∀ {as : List AR} {j k : Nat}, (slotsOf as).Nodup → as[j]? = some (.b i) → as[k]? = some (.b i) → j = k
  | [], _, _, _, h, _ => by simp at h
  | .d _ :: r, 0, _, _, h, _ => by simp at h
  | .d _ :: r, _ + 1, 0, _, _, h => by simp at h
  | .d _ :: r, j + 1, k + 1, nd, h1, h2 => congrArg (· + 1) (slots_inj (as := r) (j := j) (k := k) nd (by simpa using h1) (by simpa using h2))
  | .b s :: r, 0, 0, _, _, _ => rfl
  | .b s :: r, 0, k + 1, nd, h1, h2 => by
    simp at h1
    subst h1
    exact absurd (ix_slots (as := r) (j := k) (by simpa using h2)) (List.nodup_cons.mp nd).1
  | .b s :: r, j + 1, 0, nd, h1, h2 => by
    simp at h2
    subst h2
    exact absurd (ix_slots (as := r) (j := j) (by simpa using h1)) (List.nodup_cons.mp nd).1
  | .b s :: r, j + 1, k + 1, nd, h1, h2 => congrArg (· + 1) (slots_inj (as := r) (j := j) (k := k) (List.nodup_cons.mp nd).2 (by simpa using h1) (by simpa using h2))
theorem putB_in {e : Env} {i : Nat} (hi : i < e.length) : ∀ {as : List AR} {ms : List M} {j : Nat} {m : M}, (slotsOf as).Nodup → as[j]? = some (.b i) → ms[j]? = some m → (putB e as ms)[i]? = some (some m)
  | [], _, _, _, _, h, _ => by simp at h
  | _ :: _, [], _, _, _, _, h => by simp at h
  | .d _ :: r, _ :: ms, 0, _, _, h, _ => by simp at h
  | .d _ :: r, _ :: ms, j + 1, m, nd, h1, h2 => putB_in hi (as := r) (j := j) nd (by simpa using h1) (by simpa using h2)
  | .b s :: r, m' :: ms, 0, m, nd, h1, h2 => by
    simp at h1 h2
    subst h1 h2
    show ((putB e r ms).set s (some m'))[s]? = _
    rw [List.getElem?_set_self (by rw [putB_len]; exact hi)]
  | .b s :: r, m' :: ms, j + 1, m, nd, h1, h2 => by
    have ne : s ≠ i := fun q => by
      subst q
      exact (List.nodup_cons.mp nd).1 (ix_slots (as := r) (j := j) (by simpa using h1))
    show ((putB e r ms).set s (some m'))[i]? = _
    rw [List.getElem?_set_ne ne]
    exact putB_in hi (as := r) (j := j) (List.nodup_cons.mp nd).2 (by simpa using h1) (by simpa using h2)
theorem argM_get {e : Env} : ∀ {as : List AR} {ms : List M} {j : Nat}, argM e as = some ms → (∀ d, as[j]? = some (.d d) → ms[j]? = some (.im d)) ∧ (∀ s, as[j]? = some (.b s) → ∃ m, e[s]? = some (some m) ∧ ms[j]? = some m)
  | [], _, _, _ => ⟨fun d q => by simp at q, fun s q => by simp at q⟩
  | .d d0 :: r, ms, j, h => by
    obtain ⟨ms', h1, rfl⟩ := Option.map_eq_some_iff.mp h
    cases j with
    | zero => exact ⟨fun d q => by simp at q ⊢; exact q, fun s q => by simp at q⟩
    | succ j =>
      have := argM_get (j := j) h1
      simpa using this
  | .b s0 :: r, ms, j, h => by
    unfold argM at h
    split at h
    · rename_i m0 he
      obtain ⟨ms', h1, rfl⟩ := Option.map_eq_some_iff.mp h
      cases j with
      | zero => exact ⟨fun d q => by simp at q, fun s q => by simp at q; subst q; exact ⟨m0, he, by simp⟩⟩
      | succ j =>
        have := argM_get (j := j) h1
        simpa using this
    · cases h
theorem argM_len {e : Env} : ∀ {as : List AR} {ms : List M}, argM e as = some ms → ms.length = as.length
  | [], _, h => by cases h; rfl
  | .d d0 :: r, ms, h => by
    obtain ⟨ms', h1, rfl⟩ := Option.map_eq_some_iff.mp h
    rw [List.length_cons, List.length_cons, argM_len h1]
  | .b s0 :: r, ms, h => by
    unfold argM at h
    split at h
    · obtain ⟨ms', h1, rfl⟩ := Option.map_eq_some_iff.mp h
      rw [List.length_cons, List.length_cons, argM_len h1]
    · cases h
theorem rAR_get {K : PySem.W.Frag} {σ : L2.St} {F : Hp} : ∀ {xs : List V} {as : List AR} {j : Nat}, rAR K σ F xs as → (∀ d, as[j]? = some (.d d) → ∃ v, xs[j]? = some v ∧ Rp K F v d) ∧ (∀ s, as[j]? = some (.b s) → ∃ v, xs[j]? = some v ∧ σ[s]? = some (some v))
  | [], [], _, _ => ⟨fun d q => by simp at q, fun s q => by simp at q⟩
  | x :: xs, .d d0 :: as, j, h => by
    cases j with
    | zero => exact ⟨fun d q => by simp at q; subst q; exact ⟨x, rfl, h.1⟩, fun s q => by simp at q⟩
    | succ j =>
      have := rAR_get (j := j) h.2
      simpa using this
  | x :: xs, .b s0 :: as, j, h => by
    cases j with
    | zero => exact ⟨fun d q => by simp at q, fun s q => by simp at q; subst q; exact ⟨x, rfl, h.1⟩⟩
    | succ j =>
      have := rAR_get (j := j) h.2
      simpa using this
  | [], _ :: _, _, h => h.elim
  | _ :: _, [], _, h => h.elim
theorem rAR_len {K : PySem.W.Frag} {σ : L2.St} {F : Hp} : ∀ {xs : List V} {as : List AR}, rAR K σ F xs as → xs.length = as.length
  | [], [], _ => rfl
  | x :: xs, .d d0 :: as, h => by rw [List.length_cons, List.length_cons, rAR_len h.2]
  | x :: xs, .b s0 :: as, h => by rw [List.length_cons, List.length_cons, rAR_len h.2]
  | [], _ :: _, h => h.elim
  | _ :: _, [], h => h.elim
/-- the footprints of the arguments -/
def fpA (fp : Nat → List Addr) (as : List AR) : Nat → List Addr := fun j => match as[j]? with
  | some (.b s) => fp s
  | _ => []
theorem mem_fpA {fp : Nat → List Addr} {as : List AR} {j : Nat} {a : Addr} (h : a ∈ fpA fp as j) : ∃ s, as[j]? = some (.b s) ∧ a ∈ fp s := by
  unfold fpA at h
  split at h
  · exact ⟨_, by assumption, h⟩
  · cases h
theorem SS.args {K : PySem.W.Frag} {e : Env} {σ : L2.St} {F H : Hp} {fp : Nat → List Addr} {as : List AR} {ms : List M} {vs : List V} (S : SS K bv e σ F H fp) (nd : (slotsOf as).Nodup) (ha : argM e as = some ms) (r : rAR K σ F vs as) :
    SS K bv0 (ms.map some) (vs.map some) F H (fpA fp as) := by
  have h1 := argM_len ha
  have h2 := rAR_len r
  refine ⟨S.sub, fun j m h => ?_, fun j a h => ?_, fun j => ?_, fun j k a g1 g2 => ?_, fun j a h => ?_, fun i v h => (by cases h), by rw [List.length_map, List.length_map, h1, h2]⟩
  · rw [List.getElem?_map] at h
    obtain ⟨m1, hm, q⟩ := Option.map_eq_some_iff.mp h
    cases q
    have hj : j < as.length := by
      have := (List.getElem?_eq_some_iff.mp hm).1
      omega
    cases q : as[j] with
    | d d =>
      have q' : as[j]? = some (.d d) := by rw [List.getElem?_eq_getElem hj, q]
      have e1 := (argM_get (j := j) ha).1 d q'
      rw [hm] at e1
      cases e1
      obtain ⟨v, g1, g2⟩ := (rAR_get (j := j) r).1 d q'
      refine ⟨v, by rw [List.getElem?_map, g1]; rfl, ?_⟩
      unfold fpA
      rw [q']
      exact .im g2
    | b s =>
      have q' : as[j]? = some (.b s) := by rw [List.getElem?_eq_getElem hj, q]
      obtain ⟨m2, e1, e2⟩ := (argM_get (j := j) ha).2 s q'
      rw [hm] at e2
      cases e2
      obtain ⟨v, g1, g2⟩ := (rAR_get (j := j) r).2 s q'
      obtain ⟨u, g3, o⟩ := S.own s m e1
      rw [g2] at g3
      cases g3
      refine ⟨v, by rw [List.getElem?_map, g1]; rfl, ?_⟩
      unfold fpA
      rw [q']
      exact o
  · obtain ⟨s, q, _⟩ := mem_fpA h
    obtain ⟨m, _, q2⟩ := (argM_get (j := j) ha).2 s q
    exact ⟨m, by rw [List.getElem?_map, q2]; rfl⟩
  · unfold fpA
    split
    · exact S.nd _
    · exact List.nodup_nil
  · obtain ⟨s, q1, w1⟩ := mem_fpA g1
    obtain ⟨s', q2, w2⟩ := mem_fpA g2
    have := S.dj s s' a w1 w2
    subst this
    exact slots_inj nd q1 q2
  · obtain ⟨s, _, q⟩ := mem_fpA h
    exact S.fr s a q
open Classical in
/-- the footprints behind a call -/
noncomputable def fpC (fp : Nat → List Addr) (as : List AR) (fp' : Nat → List Addr) : Nat → List Addr := fun i => if h : ∃ j : Nat, as[j]? = some (AR.b i) then fp' h.choose else fp i
theorem fpC_in {fp fp' : Nat → List Addr} {as : List AR} {i j : Nat} (nd : (slotsOf as).Nodup) (h : as[j]? = some (.b i)) : fpC fp as fp' i = fp' j := by
  unfold fpC
  have hx : ∃ j : Nat, as[j]? = some (AR.b i) := ⟨j, h⟩
  rw [dif_pos hx, slots_inj nd hx.choose_spec h]
theorem fpC_out {fp fp' : Nat → List Addr} {as : List AR} {i : Nat} (h : i ∉ slotsOf as) : fpC fp as fp' i = fp i := by
  unfold fpC
  rw [dif_neg fun ⟨j, q⟩ => h (ix_slots q)]
/-- behind a call -/
theorem SS.after {K : PySem.W.Frag} {e : Env} {σ : L2.St} {F H F' H' : Hp} {fp fp' : Nat → List Addr} {as : List AR} {ms ms' : List M} {vs : List V} {P' : Addr → Prop} {fpr : List Addr} (S : SS K bv e σ F H fp) (nd : (slotsOf as).Nodup) (ha : argM e as = some ms) (r : rAR K σ F vs as)
    (hl : ms'.length = ms.length) (s : Stp F H (Pf (fpA fp as)) F' H' P') (S' : SS K bv0 (ms'.map some) (vs.map some) F' H' fp') (hP : ∀ a, Pf fp' a ∨ a ∈ fpr → P' a) (dj : ∀ a ∈ fpr, ¬ Pf fp' a) :
    SS K bv (putB e as ms') σ F' H' (fpC fp as fp') ∧ Stp F H (Pf fp) F' H' (fun a => Pf (fpC fp as fp') a ∨ a ∈ fpr) ∧ ∀ a ∈ fpr, ¬ Pf (fpC fp as fp') a := by
  have hal := argM_len ha
  have sub : ∀ a, Pf (fpA fp as) a → Pf fp a := fun a ⟨j, h⟩ => by
    obtain ⟨s, _, q⟩ := mem_fpA h
    exact ⟨s, q⟩
  have off : ∀ i a, i ∉ slotsOf as → a ∈ fp i → ¬ Pf (fpA fp as) a := fun i a hi h ⟨j, h'⟩ => by
    obtain ⟨s, q1, q2⟩ := mem_fpA h'
    have := S.dj i s a h q2
    subst this
    exact hi (ix_slots q1)
  have offP : ∀ i a, i ∉ slotsOf as → a ∈ fp i → ¬ P' a := fun i a hi h p => by
    rcases s.newP a p with z | z
    · exact off i a hi h z
    · obtain ⟨o, q⟩ := S.live h
      rw [q] at z
      cases z
  refine ⟨⟨S'.sub, fun i m h => ?_, fun i a h => ?_, fun i => ?_, fun i j a h1 h2 => ?_, fun i a h => ?_, S.bor, by rw [putB_len]; exact S.len⟩, ⟨s.ext, fun a o h n => s.keep a o h fun z => n (sub a z), s.live, fun a h => ?_, fun a h => ?_⟩, fun a ha' ⟨i, h⟩ => ?_⟩
  · by_cases hi : i ∈ slotsOf as
    · obtain ⟨j, hj⟩ := slots_ix hi
      obtain ⟨m0, e1, e2⟩ := (argM_get (j := j) ha).2 i hj
      have hji : j < ms'.length := by
        have := (List.getElem?_eq_some_iff.mp e2).1
        omega
      have e3 := putB_in (ms := ms') (List.getElem?_eq_some_iff.mp e1).1 nd hj (List.getElem?_eq_getElem hji)
      rw [e3] at h
      cases h
      obtain ⟨v, g1, o⟩ := S'.own j ms'[j] (by rw [List.getElem?_map, List.getElem?_eq_getElem hji]; rfl)
      obtain ⟨u, g2, g3⟩ := (rAR_get (j := j) r).2 i hj
      rw [List.getElem?_map, g2] at g1
      cases g1
      rw [fpC_in nd hj]
      exact ⟨_, g3, o⟩
    · rw [putB_out hi] at h
      obtain ⟨v, g1, o⟩ := S.own i m h
      rw [fpC_out hi]
      exact ⟨v, g1, o.mono s.ext fun a ha' u hu => s.keep a u hu (off i a hi ha') (.inl (S.fr i a ha'))⟩
  · by_cases hi : i ∈ slotsOf as
    · obtain ⟨j, hj⟩ := slots_ix hi
      obtain ⟨m0, e1, e2⟩ := (argM_get (j := j) ha).2 i hj
      have hji : j < ms'.length := by
        have := (List.getElem?_eq_some_iff.mp e2).1
        omega
      exact ⟨_, putB_in (ms := ms') (List.getElem?_eq_some_iff.mp e1).1 nd hj (List.getElem?_eq_getElem hji)⟩
    · rw [fpC_out hi] at h
      rw [putB_out hi]
      exact S.nil i a h
  · by_cases hi : i ∈ slotsOf as
    · obtain ⟨j, hj⟩ := slots_ix hi
      rw [fpC_in nd hj]
      exact S'.nd j
    · rw [fpC_out hi]
      exact S.nd i
  · by_cases hi : i ∈ slotsOf as
    · obtain ⟨k, hk⟩ := slots_ix hi
      rw [fpC_in nd hk] at h1
      by_cases hj : j ∈ slotsOf as
      · obtain ⟨k', hk'⟩ := slots_ix hj
        rw [fpC_in nd hk'] at h2
        have := S'.dj k k' a h1 h2
        subst this
        rw [hk] at hk'
        cases hk'
        rfl
      · rw [fpC_out hj] at h2
        exact absurd (hP a (.inl ⟨k, h1⟩)) (offP j a hj h2)
    · rw [fpC_out hi] at h1
      by_cases hj : j ∈ slotsOf as
      · obtain ⟨k', hk'⟩ := slots_ix hj
        rw [fpC_in nd hk'] at h2
        exact absurd (hP a (.inl ⟨k', h2⟩)) (offP i a hi h1)
      · rw [fpC_out hj] at h2
        exact S.dj i j a h1 h2
  · by_cases hi : i ∈ slotsOf as
    · obtain ⟨j, hj⟩ := slots_ix hi
      rw [fpC_in nd hj] at h
      exact S'.fr j a h
    · rw [fpC_out hi] at h
      cases q : F' a with
      | none => rfl
      | some o =>
        rcases s.newF a (by rw [q]; simp) with z | z | z
        · exact absurd (S.fr i a h) z
        · exact absurd z (off i a hi h)
        · obtain ⟨o', q'⟩ := S.live h
          obtain ⟨vs', e'⟩ := z _ q'
          rw [e'] at q'
          exact absurd q' (S.ntup h vs')
  · rcases s.newF a h with z | z | z
    · exact .inl z
    · exact .inr (.inl (sub a z))
    · exact .inr (.inr z)
  · have fromP : P' a → Pf fp a ∨ H a = none := fun p => (s.newP a p).imp (sub a) id
    rcases h with ⟨i, h⟩ | h
    · by_cases hi : i ∈ slotsOf as
      · obtain ⟨j, hj⟩ := slots_ix hi
        rw [fpC_in nd hj] at h
        exact fromP (hP a (.inl ⟨j, h⟩))
      · rw [fpC_out hi] at h
        exact .inl ⟨i, h⟩
    · exact fromP (hP a (.inr h))
  · by_cases hi : i ∈ slotsOf as
    · obtain ⟨j, hj⟩ := slots_ix hi
      rw [fpC_in nd hj] at h
      exact dj a ha' ⟨j, h⟩
    · rw [fpC_out hi] at h
      exact offP i a hi h (hP a (.inr ha'))
/-- what is done with the arguments -/
def callAt (Fs : List M → FOut) (as : List AR) : EM M := fun e => if (slotsOf as).Nodup then (match argM e as with
  | none => .no
  | some ms => match Fs ms with
    | .ok r ms' => if ms'.length = ms.length then .ok r (putB e as ms') else .no
    | _ => .no) else .no
theorem call_at {K : PySem.W.Frag} {Fs : List M → FOut} {σ : L2.St} {F1 H1 : Hp} {fp1 : Nat → List Addr} {e1 : Env} {Q : VK} {as : List AR} {vs : List V} (S1 : SS K bv e1 σ F1 H1 fp1) (r1 : rAR K σ F1 vs as) (q1 : AtG K W bv (rM K) (callAt Fs as) e1 σ F1 H1 fp1 Q) : spF K Fs vs H1 Q E0 := by
  unfold AtG callAt at q1
  by_cases nd : (slotsOf as).Nodup
  · rw [if_pos nd] at q1
    cases ha : argM e1 as with
    | none => rw [ha] at q1; exact q1.elim
    | some ms =>
      rw [ha] at q1
      dsimp only at q1
      refine ⟨ms, F1, fpA fp1 as, S1.args nd ha r1, ?_⟩
      cases hF : Fs ms with
      | no => rw [hF] at q1; exact q1
      | ex C fs ms' => rw [hF] at q1; exact q1.elim
      | ok r ms' =>
        rw [hF] at q1
        dsimp only at q1 ⊢
        by_cases hl : ms'.length = ms.length
        · rw [if_pos hl] at q1
          intro v F' H' fp' P' s' S' ⟨fpr, hP, o, ndr, dj, frr⟩
          obtain ⟨A1, A2, A3⟩ := S1.after nd ha r1 hl s' S' hP dj
          exact q1 v F' H' _ _ A2 A1 ⟨fpr, rfl, o, ndr, A3, frr⟩
        · rw [if_neg hl] at q1
          exact q1.elim
  · rw [if_neg nd] at q1
    exact q1.elim
/-- the call's reading -/
theorem call_of {K : PySem.W.Frag} {Fs : List M → FOut} {σ : L2.St} {H : Hp} {Q : VK} (t : tM K W bv (callM Fs fr) σ H Q) : tR K W bv fr σ H fun vs H1 => spF K Fs vs H1 Q E0 :=
  tG.mono (tG.bnd (r := rAR K σ) t) fun vs H1 ⟨as, e1, F1, fp1, S1, r1, q1⟩ => call_at S1 r1 q1
theorem dm_call {Fs : List M → FOut} {k : Nat} {f : Addr} {fd : FuncData} {ps : List Str} {x : Str} {p : Pos} (G : FnG X.prog X.w X.K X.mg X.base k f fd ps (spF X.K Fs)) (hgd : X.A.guards = some []) (hr : Room k X.A) (hm : X.mg x = some (.ref f)) (hk : PySem.W.keepIn X.K (.ref f) = true) (hb : Binds X.K fd ps [])
    (ha : DR X W bv (a :: es) fr) (hg : Gl X x := by rfl) (hdb : (x == ("__debug__" : Str)) = false := by decide) (he : starEach (a :: es) X.env = (false, eval a X.env) :: starEach es X.env := by rfl) (hpl : (backTo pos (starEach es X.env)).any (·.1) = false := by rfl) :
    DM X W bv (.Call (.Name x p) (a :: es) [] pos) (callM Fs fr) :=
  pe_imp (pe_callG (E := E0) G hgd hr hg hm hk hb ha hdb he hpl) fun σ H Q t => call_of t
/-- an owned result, from then on data -/
def frzE (f : EM M) : EM D := bnd f fun m => lif m.toD
theorem de_ofM {e : Expr} {f : EM M} (h : DM X W bv e f) : DE X W bv e (frzE f) :=
  pe_imp h fun σ H Q ⟨e, F, fp, S, q⟩ => by
    refine ⟨e, F, fp, S, ?_⟩
    unfold AtG frzE bnd at q
    unfold AtG
    cases z : f e with
    | no => rw [z] at q; exact q
    | ex C fs e' => rw [z] at q; exact q
    | ok m e' =>
      rw [z] at q
      intro x F' H' fp' P' s' S' ⟨fpr, hP, o, nd, dj, fr'⟩
      dsimp only at q
      cases hd : m.toD with
      | none => rw [hd] at q; exact q.elim
      | some d =>
        rw [hd] at q
        have sF : Sub F' (ov H' F' fpr) := Sub.ov fr'
        refine q x (ov H' F' fpr) H' fp' (Pf fp') ⟨s'.ext.trans sF, s'.keep, s'.live, fun a h => ?_, fun a h => s'.newP a (by rw [hP]; exact .inl h)⟩ (S'.heap sF S'.sub.of_ov (fun _ _ _ _ h => h) fun i a h => ?_) ⟨rfl, o.frozen fr' hd⟩
        · by_cases n : a ∈ fpr
          · exact .inr ((s'.newP a (by rw [hP]; exact .inr n)).imp id nw_of)
          · rw [ov_out n] at h
            exact s'.newF a h
        · rw [ov_out fun n => dj a n ⟨i, h⟩]
          exact S'.fr i a h
theorem de_call {Fs : List M → FOut} {k : Nat} {f : Addr} {fd : FuncData} {ps : List Str} {x : Str} {p : Pos} (G : FnG X.prog X.w X.K X.mg X.base k f fd ps (spF X.K Fs)) (hgd : X.A.guards = some []) (hr : Room k X.A) (hm : X.mg x = some (.ref f)) (hk : PySem.W.keepIn X.K (.ref f) = true) (hb : Binds X.K fd ps [])
    (ha : DR X W bv (a :: es) fr) (hg : Gl X x := by rfl) (hdb : (x == ("__debug__" : Str)) = false := by decide) (he : starEach (a :: es) X.env = (false, eval a X.env) :: starEach es X.env := by rfl) (hpl : (backTo pos (starEach es X.env)).any (·.1) = false := by rfl) :
    DE X W bv (.Call (.Name x p) (a :: es) [] pos) (callD Fs fr) := de_ofM (dm_call G hgd hr hm hk hb ha hg hdb he hpl)
theorem de_call0 {Fs : List M → FOut} {k : Nat} {f : Addr} {fd : FuncData} {ps : List Str} {x : Str} {p : Pos} (G : FnG X.prog X.w X.K X.mg X.base k f fd ps (spF X.K Fs)) (hgd : X.A.guards = some []) (hr : Room k X.A) (hm : X.mg x = some (.ref f)) (hk : PySem.W.keepIn X.K (.ref f) = true) (hb : Binds X.K fd ps [])
    (hg : Gl X x := by rfl) (hdb : (x == ("__debug__" : Str)) = false := by decide) :
    DE X W bv (.Call (.Name x p) [] [] pos) (callD Fs arN) := de_ofM (pe_imp (pe_call0G (E := E0) G hgd hr hg hm hk hb hdb) fun σ H Q t => by
      obtain ⟨e, F, fp, S, q⟩ := call_of t
      exact AtG.here (r := rAR X.K σ) (x := []) S q trivial)
end
end FD

/-! FD: comprehensions. -/
namespace FD
open PySem L2
def wipeE (e : Env) : List Nat → Env
  | [] => e
  | v :: vs => (wipeE e vs).set v none
def imAt (e : Env) (v : Nat) : Bool := match e[v]? with
  | some (some m) => isIm m
  | _ => true
/-- what the slots vs held is held again -/
def backE (e1 e : Env) : List Nat → Env
  | [] => e1
  | v :: vs => match e[v]? with
    | some o => (backE e1 e vs).set v o
    | none => backE e1 e vs
theorem wipeE_len {e : Env} : ∀ {vs : List Nat}, (wipeE e vs).length = e.length
  | [] => rfl
  | v :: vs => by unfold wipeE; rw [List.length_set, wipeE_len]
theorem wipeE_out {e : Env} {i : Nat} : ∀ {vs : List Nat}, i ∉ vs → (wipeE e vs)[i]? = e[i]?
  | [], _ => rfl
  | v :: vs, h => by
    rw [List.mem_cons, not_or] at h
    unfold wipeE
    rw [List.getElem?_set_ne (Ne.symm h.1), wipeE_out h.2]
theorem wipeE_in {e : Env} {i : Nat} {m : M} : ∀ {vs : List Nat}, i ∈ vs → (wipeE e vs)[i]? ≠ some (some m)
  | v :: vs, h => by
    unfold wipeE
    by_cases n : v = i
    · subst n
      rw [List.getElem?_set]
      simp only [if_true]
      split <;> simp
    · rw [List.getElem?_set_ne n]
      exact wipeE_in (by
        rcases List.mem_cons.mp h with q | q
        · exact absurd q.symm n
        · exact q)
theorem backE_len {e1 e : Env} : ∀ {vs : List Nat}, (backE e1 e vs).length = e1.length
  | [] => rfl
  | v :: vs => by
    unfold backE
    split
    · rw [List.length_set, backE_len]
    · exact backE_len
theorem backE_out {e1 e : Env} {i : Nat} : ∀ {vs : List Nat}, i ∉ vs → (backE e1 e vs)[i]? = e1[i]?
  | [], _ => rfl
  | v :: vs, h => by
    rw [List.mem_cons, not_or] at h
    unfold backE
    split
    · rw [List.getElem?_set_ne (Ne.symm h.1), backE_out h.2]
    · exact backE_out h.2
theorem backE_in {e1 e : Env} {i : Nat} (hl : e1.length = e.length) : ∀ {vs : List Nat}, i ∈ vs → (backE e1 e vs)[i]? = e[i]?
  | v :: vs, h => by
    unfold backE
    by_cases n : v = i
    · subst n
      split
      · rename_i o ho
        have hv := (List.getElem?_eq_some_iff.mp ho).1
        rw [List.getElem?_set_self (by rw [backE_len]; omega), ho]
      · rename_i ho
        rw [ho, List.getElem?_eq_none_iff, backE_len]
        have := List.getElem?_eq_none_iff.mp ho
        omega
    · have h' : i ∈ vs := by
        rcases List.mem_cons.mp h with q | q
        · exact absurd q.symm n
        · exact q
      split
      · rw [List.getElem?_set_ne n]
        exact backE_in hl h'
      · exact backE_in hl h'
theorem wipe_in {σ : L2.St} {i : Nat} {x : V} : ∀ {vs : List Nat}, i ∈ vs → (wipe σ vs)[i]? ≠ some (some x) := fun h q => (wipe_some q).2 h
section
variable {K : PySem.W.Frag} {bv : Nat → Option V} {e : Env} {σ : L2.St} {F H : Hp} {fp : Nat → List Addr}
theorem SS.nilAt (S : SS K bv e σ F H fp) {v : Nat} (h : imAt e v = true) : fp v = [] := by
  cases q : fp v with
  | nil => rfl
  | cons a l =>
    obtain ⟨m, hm⟩ := S.nil v a (by rw [q]; exact List.mem_cons_self)
    unfold imAt at h
    rw [hm] at h
    dsimp only at h
    obtain ⟨u, _, o⟩ := S.own v m hm
    cases m with
    | im d =>
      rw [q] at o
      cases o
    | _ => cases h
theorem SS.wipe {vs : List Nat} (S : SS K bv e σ F H fp) (h : vs.all (imAt e) = true) (hb : vs.all (fun i => (bv i).isNone) = true) : SS K bv (wipeE e vs) (L2.wipe σ vs) F H fp := by
  rw [List.all_eq_true] at h hb
  refine ⟨S.sub, fun i m q => ?_, fun i a q => ?_, S.nd, S.dj, S.fr, fun i v q => ?_, by rw [wipeE_len, wipe_length]; exact S.len⟩
  · by_cases hi : i ∈ vs
    · exact absurd q (wipeE_in hi)
    · rw [wipeE_out hi] at q
      rw [wipe_out hi]
      exact S.own i m q
  · by_cases hi : i ∈ vs
    · rw [S.nilAt (h i hi)] at q
      cases q
    · rw [wipeE_out hi]
      exact S.nil i a q
  · by_cases hi : i ∈ vs
    · have := hb i hi
      rw [q] at this
      cases this
    · rw [wipe_out hi]
      exact S.bor i v q
/-- behind a block: its own slots hold what they held -/
theorem SS.unwipe {vs : List Nat} {e1 : Env} {F' H' : Hp} {fp' : Nat → List Addr} (S : SS K bv e σ F H fp) (h : vs.all (imAt e) = true) (s : Sub F F') (S' : SS K bv e1 (L2.wipe σ vs) F' H' fp') (hw : vs.all (imAt e1) = true) : SS K bv (backE e1 e vs) σ F' H' fp' := by
  have hl : e1.length = e.length := by rw [S'.len, wipe_length]; exact S.len.symm
  rw [List.all_eq_true] at h hw
  refine ⟨S'.sub, fun i m q => ?_, fun i a q => ?_, S'.nd, S'.dj, S'.fr, S.bor, by rw [backE_len, hl]; exact S.len⟩
  · by_cases hi : i ∈ vs
    · rw [backE_in hl hi] at q
      obtain ⟨v, hv, o⟩ := S.own i m q
      have him := h i hi
      unfold imAt at him
      rw [q] at him
      dsimp only at him
      cases m with
      | im d =>
        generalize fp i = l at o
        cases o with
        | im r =>
          rw [S'.nilAt (hw i hi)]
          exact ⟨v, hv, .im (r.mono s)⟩
      | _ => cases him
    · rw [backE_out hi] at q
      obtain ⟨v, hv, o⟩ := S'.own i m q
      rw [wipe_out hi] at hv
      exact ⟨v, hv, o⟩
  · by_cases hi : i ∈ vs
    · rw [S'.nilAt (hw i hi)] at q
      cases q
    · rw [backE_out hi]
      exact S'.nil i a q
end
theorem wipe_off {σ σ' : L2.St} {l vs : List Nat} (o : Off l σ σ') (hs : ∀ i ∈ l, i ∈ vs) : wipe σ' vs = wipe σ vs := by
  have key : ∀ (τ : L2.St) (us : List Nat) (i : Nat), i ∈ us → (wipe τ us)[i]? = if i < τ.length then some none else none := by
    intro τ us
    induction us with
    | nil => intro i h; cases h
    | cons v us ih =>
      intro i h
      unfold wipe
      by_cases n : v = i
      · subst n
        rw [List.getElem?_set]
        simp only [if_true, wipe_length]
      · rw [List.getElem?_set_ne n]
        exact ih i (by
          rcases List.mem_cons.mp h with q | q
          · exact absurd q.symm n
          · exact q)
  apply List.ext_getElem?
  intro i
  by_cases hi : i ∈ vs
  · rw [key _ _ _ hi, key _ _ _ hi, o.1]
  · rw [wipe_out hi, wipe_out hi, o.2 i fun q => hi (hs i q)]

/-- the items that a comprehension makes, one turn after another -/
def compL (vs : List Nat) (t : D → EM Unit) (tt : EM Bool) (te : EM D) : List D → EM (List D)
  | [] => ret []
  | d :: ds => fun e => match t d e with
    | .ok _ e1 => match tt e1 with
      | .ok true e2 => match te e2 with
        | .ok y e3 => if vs.all (imAt e3) then (match compL vs t tt te ds (wipeE e3 vs) with
          | .ok ys e4 => .ok (y :: ys) e4
          | _ => .no) else .no
        | _ => .no
      | .ok false e2 => if vs.all (imAt e2) then compL vs t tt te ds (wipeE e2 vs) else .no
      | _ => .no
    | _ => .no
def compE (vs : List Nat) (fi : EM (List D)) (t : D → EM Unit) (tt : EM Bool) (te : EM D) : EM D := bnd fi fun ds e => if vs.all (imAt e) then (match compL vs t tt te ds (wipeE e vs) with
  | .ok ys e1 => if few ys.length && vs.all (imAt e1) then .ok (.list ys) (backE e1 e vs) else .no
  | _ => .no) else .no

section
variable {K : PySem.W.Frag} {W : WX} {bv : Nat → Option V} {σ : L2.St}
/-- the state of a comprehension under way: A the new list's address -/
structure CS (K : PySem.W.Frag) (bv : Nat → Option V) (e : Env) (σ : L2.St) (F H : Hp) (fp : Nat → List Addr) (A : Addr) (ys : List D) : Prop where
  ss : SS K bv e σ F H fp
  li : ∃ acc, H A = some (.lst acc) ∧ RpL K F acc ys
  nf : F A = none
  np : ¬ Pf fp A
theorem CS.step {e e' : Env} {σ' : L2.St} {F H F' H' : Hp} {fp fp' : Nat → List Addr} {A : Addr} {ys : List D} (C : CS K bv e σ F H fp A ys) (s : Stp F H (Pf fp) F' H' (Pf fp')) (S' : SS K bv e' σ' F' H' fp') : CS K bv e' σ' F' H' fp' A ys := by
  obtain ⟨acc, h1, h2⟩ := C.li
  refine ⟨S', ⟨acc, s.keep A _ h1 C.np (.inl C.nf), h2.mono s.ext⟩, ?_, fun z => ?_⟩
  · cases q : F' A with
    | none => rfl
    | some o =>
      rcases s.newF A (by rw [q]; simp) with z | z | z
      · exact absurd C.nf z
      · exact absurd z C.np
      · obtain ⟨_, z⟩ := z _ h1; cases z
  · rcases s.newP A z with z | z
    · exact C.np z
    · rw [h1] at z; cases z
/-- one more item -/
theorem CS.app {e : Env} {F H : Hp} {fp : Nat → List Addr} {A : Addr} {ys : List D} {acc : List V} {v : V} {y : D} (C : CS K bv e σ F H fp A ys) (h1 : H A = some (.lst acc)) (h2 : RpL K F acc ys) (r : Rp K F v y) : CS K bv e σ F (upd H A (.lst (acc ++ [v]))) fp A (ys ++ [y]) where
  ss := C.ss.heap (Sub.refl F) (C.ss.sub.mut C.nf) (fun i a o h q => by
    rw [upd_ne fun z => C.np (by rw [← z]; exact ⟨i, h⟩)]
    exact q) C.ss.fr
  li := ⟨_, upd_same, h2.append (.cons r .nil)⟩
  nf := C.nf
  np := C.np
theorem Stp.grow {F H F' H' : Hp} {P P' : Addr → Prop} {A : Addr} {o : HO} (s : Stp F H P F' H' P') (h : H A = none) : Stp F H P F' (upd H' A o) P' where
  ext := s.ext
  keep := fun a u q n f => by
    rw [upd_ne (ne_of_none q h)]
    exact s.keep a u q n f
  live := fun a q => by
    by_cases n : a = A
    · subst n; exact h
    · rw [upd_ne n] at q; exact s.live a q
  newF := s.newF
  newP := s.newP
/-- the end: the list is data -/
theorem CS.done {e : Env} {F H F0 H0 : Hp} {fp fp0 : Nat → List Addr} {A : Addr} {ys : List D} (C : CS K bv e σ F H fp A ys) (s : Stp F0 H0 (Pf fp0) F H (Pf fp)) (h0 : H0 A = none) :
    ∃ F', Stp F0 H0 (Pf fp0) F' H (Pf fp) ∧ SS K bv e σ F' H fp ∧ Rp K F' (.ref A) (.list ys) := by
  obtain ⟨acc, h1, h2⟩ := C.li
  have sF : Sub F (upd F A (.lst acc)) := Sub.new C.nf
  have sH : Sub (upd F A (.lst acc)) H := by
    refine ⟨fun a u r => ?_, fun a vs q => ?_, fun a ob u q => ?_⟩
    · by_cases n : a = A
      · subst n
        exact rd_at (by rw [upd_same, h1]) r
      · exact C.ss.sub.rd a u (rd_at (upd_ne n).symm r)
    · by_cases n : a = A
      · subst n
        rw [upd_same] at q
        cases q
      · rw [upd_ne n] at q
        exact C.ss.sub.tp a vs q
    · by_cases n : a = A
      · subst n
        rw [upd_same] at q
        cases q
      · rw [upd_ne n] at q
        exact C.ss.sub.fz a ob u q
  refine ⟨upd F A (.lst acc), ⟨s.ext.trans sF, s.keep, s.live, fun a q => ?_, s.newP⟩, C.ss.heap sF sH (fun _ _ _ _ q => q) (fun i a q => ?_), .lst (.inl (.inl upd_same)) (h2.mono sF)⟩
  · by_cases n : a = A
    · subst n; exact .inr (.inr (nw_of h0))
    · rw [upd_ne n] at q; exact s.newF a q
  · rw [upd_ne fun z => C.np (by rw [← z]; exact ⟨i, q⟩)]
    exact C.ss.fr i a q
/-- one turn -/
theorem turn_of {vs l : List Nat} {t : D → EM Unit} {tt : EM Bool} {te : EM D} {e ef : Env} {F H : Hp} {fp : Nat → List Addr} {A : Addr} {d : D} {ds ys zs : List D} {x : V} {Nx : Hp → Prop} (hl : ∀ i ∈ l, i ∈ vs) (hb : vs.all (fun i => (bv i).isNone) = true) (hz : ys.length + zs.length ≤ 1000000)
    (C : CS K bv e (wipe σ vs) F H fp A ys) (r : Rp K F x d) (q : compL vs t tt te (d :: ds) e = .ok zs ef)
    (hN : ∀ e' F' H' fp' ys' zs', (∃ H1, Stp F H (Pf fp) F' H1 (Pf fp') ∧ (H' = H1 ∨ ∃ o, H' = upd H1 A o)) → CS K bv e' (wipe σ vs) F' H' fp' A ys' → compL vs t tt te ds e' = .ok zs' ef → ys' ++ zs' = ys ++ zs → Nx H') :
    tTg K bv l t x (wipe σ vs) H fun σ2 H2 => wipe σ2 vs = wipe σ vs ∧ tT K W0 bv tt σ2 H2 fun b H3 =>
      if b = true then tE K W0 bv te σ2 H3 fun y H4 => ∃ acc, H4 A = some (.lst acc) ∧ acc.length < sizeLine ∧ Nx (upd H4 A (.lst (acc ++ [y]))) else Nx H3 := by
  refine ⟨e, F, fp, d, C.ss, r, ?_⟩
  simp only [compL] at q
  cases z1 : t d e with
  | no => rw [z1] at q; cases q
  | ex _ _ _ => rw [z1] at q; cases q
  | ok _ e1 =>
    rw [z1] at q
    dsimp only at q ⊢
    intro σ2 F2 H2 fp2 o2 s2 S2
    have w2 := wipe_off (vs := vs) o2 hl
    have ww : wipe (wipe σ vs) vs = wipe σ vs := wipe_off ⟨wipe_length σ vs, fun j h => wipe_out h⟩ (l := vs) fun _ h => h
    rw [ww] at w2
    refine ⟨w2, e1, F2, fp2, S2, ?_⟩
    unfold AtG
    cases z2 : tt e1 with
    | no => rw [z2] at q; cases q
    | ex _ _ _ => rw [z2] at q; cases q
    | ok b e2 =>
      rw [z2] at q
      intro b' F3 H3 fp3 P3 s3 S3 hb3
      obtain ⟨rfl, hb3⟩ := hb3
      cases (show b' = b from hb3)
      have s23 := s2.trans s3
      cases b with
      | false =>
        rw [if_neg Bool.false_ne_true]
        dsimp only at q
        split at q
        · rename_i hw
          have S3' := S3.wipe hw hb
          rw [w2] at S3'
          exact hN _ F3 H3 fp3 ys zs ⟨H3, s23, .inl rfl⟩ (C.step s23 S3') q rfl
        · cases q
      | true =>
        rw [if_pos rfl]
        dsimp only at q
        refine ⟨e2, F3, fp3, S3, ?_⟩
        unfold AtG
        cases z3 : te e2 with
        | no => rw [z3] at q; cases q
        | ex _ _ _ => rw [z3] at q; cases q
        | ok y e3 =>
          rw [z3] at q
          intro v F4 H4 fp4 P4 s4 S4 r4
          obtain ⟨rfl, r4⟩ := r4
          dsimp only at q
          split at q
          · rename_i hw
            cases z4 : compL vs t tt te ds (wipeE e3 vs) with
            | no => rw [z4] at q; cases q
            | ex _ _ _ => rw [z4] at q; cases q
            | ok zs' e4 =>
              rw [z4] at q
              cases q
              have s24 := s23.trans s4
              have S4' := S4.wipe hw hb
              rw [w2] at S4'
              have C4 := C.step s24 S4'
              obtain ⟨acc, h1, h2⟩ := C4.li
              refine ⟨acc, h1, ?_, ?_⟩
              · rw [h2.length]
                refine Nat.lt_of_le_of_lt (m := 1000000) ?_ (by decide)
                rw [List.length_cons] at hz
                omega
              · exact hN _ F4 _ fp4 (ys ++ [y]) zs' ⟨H4, s24, .inr ⟨_, rfl⟩⟩ (C4.app h1 h2 r4) z4 (by simp)
          · cases q
theorem comp_of {vs l : List Nat} {fi : EM (List D)} {t : D → EM Unit} {tt : EM Bool} {te : EM D} {H : Hp} {Q : VK} (hl : ∀ i ∈ l, i ∈ vs) (hb : vs.all (fun i => (bv i).isNone) = true)
    (h : tE K W bv (compE vs fi t tt te) σ H Q) : tLc (tI K W bv fi) (tTg K bv l t) (tT K W0 bv tt) (tE K W0 bv te) vs σ H Q := by
  obtain ⟨e, F, fp, S, q⟩ := h
  refine ⟨e, F, fp, S, ?_⟩
  unfold AtG compE bnd at q
  cases z : fi e with
  | no => rw [z] at q; exact q
  | ex C fs e' => rw [z] at q; exact q
  | ok ds e1 =>
    rw [z] at q
    intro J F1 H1 fp1 s1 S1 wk A hA
    dsimp only at q
    by_cases hw : vs.all (imAt e1) = true
    · rw [if_pos hw] at q
      cases z2 : compL vs t tt te ds (wipeE e1 vs) with
      | no => rw [z2] at q; exact q.elim
      | ex _ _ _ => rw [z2] at q; exact q.elim
      | ok zs ef =>
        rw [z2] at q
        dsimp only at q
        by_cases hfew : (few zs.length && vs.all (imAt ef)) = true
        · rw [if_pos hfew] at q
          rw [Bool.and_eq_true] at hfew
          have hz : zs.length ≤ 1000000 := of_decide_eq_true hfew.1
          have S1' := S1.wipe hw hb
          have fA : F1 A = none := S1.sub.non hA
          have pA : ¬ Pf fp1 A := fun ⟨i, h⟩ => by
            obtain ⟨o, ho⟩ := S1.live h
            rw [hA] at ho
            cases ho
          have C0 : CS K bv (wipeE e1 vs) (wipe σ vs) F1 (upd H1 A (.lst [])) fp1 A [] := by
            refine ⟨S1'.heap (Sub.refl F1) (S1.sub.mut fA) (fun i a o h q => ?_) S1.fr, ⟨[], upd_same, .nil⟩, fA, pA⟩
            rw [upd_ne (ne_of_none q hA)]
            exact q
          refine ⟨fun i m H' => m = ds.length - i ∧ i ≤ ds.length ∧ ∃ e' F' fp' ys zs', Stp F1 H1 (Pf fp1) F' H' (Pf fp') ∧ CS K bv e' (wipe σ vs) F' H' fp' A ys ∧ compL vs t tt te (ds.drop i) e' = .ok zs' ef ∧ ys ++ zs' = zs, ⟨ds.length, rfl, Nat.zero_le _, wipeE e1 vs, F1, fp1, [], zs, (Stp.refl _ _ _).grow hA, C0, z2, rfl⟩, ?_⟩
          rintro i m H' ⟨rfl, hi, e', F', fp', ys, zs', s', C', q', hyz⟩
          obtain ⟨go, stop⟩ := wk F' H' i s'.ext C'.ss.sub
          by_cases hlt : i < ds.length
          · refine .inr ⟨(go ds[i] (List.getElem?_eq_getElem hlt)).1, _, fun H2 h2 => ⟨ds.length - (i + 1), by omega, h2⟩, fun x H2 y => ?_⟩
            obtain ⟨F2, gr, r2⟩ := (go ds[i] (List.getElem?_eq_getElem hlt)).2 x H2 y
            have s2 : Stp F' H' (Pf fp') F2 H2 (Pf fp') := gr.stp C'.ss.sub
            have C2 := C'.step s2 (gr.ss C'.ss)
            rw [List.drop_eq_getElem_cons hlt] at q'
            refine turn_of hl hb (by rw [← hyz, List.length_append] at hz; exact hz) C2 r2 q' fun e3 F3 H3 fp3 ys3 zs3 ⟨H4, s4, h4⟩ C3 q3 h3 => ?_
            refine ⟨rfl, hlt, e3, F3, fp3, ys3, zs3, ?_, C3, q3, h3.trans hyz⟩
            have s5 := (s'.trans s2).trans s4
            rcases h4 with rfl | ⟨o, rfl⟩
            · exact s5
            · exact s5.grow hA
          · have ei : i = ds.length := by omega
            subst ei
            rw [List.drop_length] at q'
            cases q'
            rw [List.append_nil] at hyz
            subst hyz
            obtain ⟨F2, s2, S2, r2⟩ := C'.done s' hA
            exact .inl ⟨stop (Nat.le_refl _) (Nat.le_refl _), q _ F2 H' fp' (Pf fp') (s1.trans s2) (S1.unwipe hw s2.ext S2 hfew.2) ⟨rfl, r2⟩⟩
        · rw [if_neg hfew] at q
          exact q.elim
    · rw [if_neg hw] at q
      exact q.elim
end
section
variable {X : Cx} {W : WX} {bv : Nat → Option V} {pos : Pos}
abbrev DTs (X : Cx) (W : WX) (bv : Nat → Option V) (es : List Expr) (f : EM Bool) : Prop := PTs X es (tT X.K W bv f)
theorem pts_imp {X : Cx} {e : List Expr} {t t' : TT} (h : PTs X e t) (w : ∀ σ H Q, t' σ H Q → t σ H Q) : PTs X e t' := ⟨fun pins s σ H Q I q => h.run pins s σ H Q I (w σ H Q q)⟩
theorem dts_nil : DTs X W bv [] (ret true) := pts_imp pts_nil fun σ H Q ⟨e, F, fp, S, q⟩ => AtG.here (r := rB) S q rfl
theorem dts_one {c : Expr} {f : EM Bool} (h : DT X W bv c f) : DTs X W bv [c] f := pts_one h
theorem de_comp {elt tg iter : Expr} {ifs : List Expr} {scope : Scope} (own : List (Str × Nat)) {l : List Nat} {fi : EM (List D)} {t : D → EM Unit} {tt : EM Bool} {te : EM D} (hN : X.N.Nodup) (hi : DI X W bv tg iter fi) (ok : BlkOk X.N X.env.scope scope own)
    (hg : ∀ (s : Shared) (H : Hp) (C : Addr) (cl : List (Str × Addr)) (fp : List Addr), DG (X.blk s H scope (compEnvC scope cl C X.env) fp) bv tg l t) (ht : ∀ (s : Shared) (H : Hp) (C : Addr) (cl : List (Str × Addr)) (fp : List Addr), DTs (X.blk s H scope (compEnvC scope cl C X.env) fp) W0 bv ifs tt)
    (he : ∀ (s : Shared) (H : Hp) (C : Addr) (cl : List (Str × Addr)) (fp : List Addr), DE (X.blk s H scope (compEnvC scope cl C X.env) fp) W0 bv elt te) (hl : l.all ((own.map (·.2)).contains ·) = true := by rfl) (hb : (own.map (·.2)).all (fun i => (bv i).isNone) = true := by rfl)
    (hc : X.calm = true := by rfl) (hs : ∀ x, foldedSetIterable iter X.env x = pure x := by intro _; rfl) :
    DE X W bv (.ListComp elt [⟨tg, iter, ifs, 0⟩] scope pos) (compE (own.map (·.2)) fi t tt te) :=
  pe_imp (pe_lc hc hN hi ok hg ht he hs) fun σ H Q h => comp_of (fun i hi => by
    rw [List.all_eq_true] at hl
    exact List.contains_iff_mem.mp (hl i hi)) hb h
theorem ds_setLc (i : Nat) {y : Str} {py : Pos} {elt tg iter : Expr} {ifs : List Expr} {scope : Scope} (own : List (Str × Nat)) {l : List Nat} {spos : Pos} {fi : EM (List D)} {t : D → EM Unit} {tt : EM Bool} {te : EM D} (hN : X.N.Nodup) (hi : DI X W bv tg iter fi) (ok : BlkOk X.N X.env.scope scope own)
    (hg : ∀ (s : Shared) (H : Hp) (C : Addr) (cl : List (Str × Addr)) (fp : List Addr), DG (X.blk s H scope (compEnvC scope cl C X.env) fp) bv tg l t) (ht : ∀ (s : Shared) (H : Hp) (C : Addr) (cl : List (Str × Addr)) (fp : List Addr), DTs (X.blk s H scope (compEnvC scope cl C X.env) fp) W0 bv ifs tt)
    (he : ∀ (s : Shared) (H : Hp) (C : Addr) (cl : List (Str × Addr)) (fp : List Addr), DE (X.blk s H scope (compEnvC scope cl C X.env) fp) W0 bv elt te)
    (hsw : swapsWith (.ListComp elt [⟨tg, iter, ifs, 0⟩] scope pos) (some (.Name y py)) spos.line X.env = pure true)
    (hy : X.N[i]? = some y := by rfl) (hyl : X.env.scope.names.lookup y = some .local := by rfl) (hbi : bv i = none := by rfl)
    (hl : l.all ((own.map (·.2)).contains ·) = true := by rfl) (hb : (own.map (·.2)).all (fun i => (bv i).isNone) = true := by rfl) (hc : X.calm = true := by rfl) (hs : ∀ x, foldedSetIterable iter X.env x = pure x := by intro _; rfl) :
    DS X W bv (.Assign [.Name y py] (.ListComp elt [⟨tg, iter, ifs, 0⟩] scope pos) spos) (setS i (compE (own.map (·.2)) fi t tt te)) :=
  ps_imp (ps_setLc hc hN hy hyl hsw hi ok hg ht he hs) fun D σ H ⟨e, F, fp, S, q⟩ => comp_of (fun i hi => by
    rw [List.all_eq_true] at hl
    exact List.contains_iff_mem.mp (hl i hi)) hb (tG.mono (AtS.bnd' (r := rD X.K) S q) fun v H1 ⟨d, e1, F1, fp1, _, _, S1, r1, q1⟩ => stoM_at hbi (Stp.refl _ _ _) S1 (rM_im r1) q1)
end
end FD

/-! FD: comprehensions with two fors. -/
namespace FD
open PySem L2
def compL2 (vs vs1 : List Nat) (t : D → EM Unit) (tt : EM Bool) (fi1 : EM (List D)) (t1 : D → EM Unit) (tt1 : EM Bool) (te : EM D) : List D → EM (List D)
  | [] => ret []
  | d :: ds => fun e => match t d e with
    | .ok _ e1 => match tt e1 with
      | .ok true e2 => match fi1 e2 with
        | .ok ds1 e3 => if vs1.all (imAt e3) then (match compL vs1 t1 tt1 te ds1 (wipeE e3 vs1) with
          | .ok ys e4 => if vs.all (imAt e4) then (match compL2 vs vs1 t tt fi1 t1 tt1 te ds (wipeE e4 vs) with
            | .ok zs e5 => .ok (ys ++ zs) e5
            | _ => .no) else .no
          | _ => .no) else .no
        | _ => .no
      | .ok false e2 => if vs.all (imAt e2) then compL2 vs vs1 t tt fi1 t1 tt1 te ds (wipeE e2 vs) else .no
      | _ => .no
    | _ => .no
def compE2 (vs vs1 : List Nat) (fi : EM (List D)) (t : D → EM Unit) (tt : EM Bool) (fi1 : EM (List D)) (t1 : D → EM Unit) (tt1 : EM Bool) (te : EM D) : EM D := bnd fi fun ds e => if vs.all (imAt e) then (match compL2 vs vs1 t tt fi1 t1 tt1 te ds (wipeE e vs) with
  | .ok ys e1 => if few ys.length && vs.all (imAt e1) then .ok (.list ys) (backE e1 e vs) else .no
  | _ => .no) else .no
section
variable {K : PySem.W.Frag} {W : WX} {bv : Nat → Option V} {σ : L2.St}
/-- the inner loop of a comprehension, from where it starts -/
theorem inner_of {vs1 l1 : List Nat} {t1 : D → EM Unit} {tt1 : EM Bool} {te : EM D} {e ef : Env} {F H F0 H0 : Hp} {fp fp0 : Nat → List Addr} {A : Addr} {ds ys zs : List D} {J : It} {Nx : Hp → Prop} (hl : ∀ i ∈ l1, i ∈ vs1) (hb : vs1.all (fun i => (bv i).isNone) = true) (hz : ys.length + zs.length ≤ 1000000)
    (h0 : H0 A = none) (s0 : Stp F0 H0 (Pf fp0) F H (Pf fp)) (C : CS K bv e (wipe σ vs1) F H fp A ys) (wk : WalksD K J F ds) (q : compL vs1 t1 tt1 te ds e = .ok zs ef)
    (hN : ∀ F' H' fp', Stp F0 H0 (Pf fp0) F' H' (Pf fp') → Sub F F' → CS K bv ef (wipe σ vs1) F' H' fp' A (ys ++ zs) → Nx H') :
    ∃ W1 : Nat → Nat → Hp → Prop, (∃ m, W1 0 m H) ∧ ∀ j k H, W1 j k H →
      (J.stop j H ∧ Nx H) ∨ (J.go j H ∧ ∃ Nx1 : Hp → Prop, (∀ H', Nx1 H' → ∃ k', k' < k ∧ W1 (j + 1) k' H') ∧ ∀ x H', J.yld j H x H' → tTg K bv l1 t1 x (wipe σ vs1) H' fun σ3 H5 => wipe σ3 vs1 = wipe σ vs1 ∧ tT K W0 bv tt1 σ3 H5 fun b H6 =>
        if b = true then tE K W0 bv te σ3 H6 fun y H7 => ∃ acc, H7 A = some (.lst acc) ∧ acc.length < sizeLine ∧ Nx1 (upd H7 A (.lst (acc ++ [y]))) else Nx1 H6) := by
  refine ⟨fun i m H' => m = ds.length - i ∧ i ≤ ds.length ∧ ∃ e' F' fp' ys' zs', Stp F0 H0 (Pf fp0) F' H' (Pf fp') ∧ Sub F F' ∧ CS K bv e' (wipe σ vs1) F' H' fp' A ys' ∧ compL vs1 t1 tt1 te (ds.drop i) e' = .ok zs' ef ∧ ys' ++ zs' = ys ++ zs, ⟨ds.length, rfl, Nat.zero_le _, e, F, fp, ys, zs, s0, Sub.refl F, C, q, rfl⟩, ?_⟩
  rintro i m H' ⟨rfl, hi, e', F', fp', ys', zs', s', sub, C', q', hyz⟩
  obtain ⟨go, stop⟩ := wk F' H' i sub C'.ss.sub
  by_cases hlt : i < ds.length
  · refine .inr ⟨(go ds[i] (List.getElem?_eq_getElem hlt)).1, _, fun H2 h2 => ⟨ds.length - (i + 1), by omega, h2⟩, fun x H2 y => ?_⟩
    obtain ⟨F2, gr, r2⟩ := (go ds[i] (List.getElem?_eq_getElem hlt)).2 x H2 y
    have s2 : Stp F' H' (Pf fp') F2 H2 (Pf fp') := gr.stp C'.ss.sub
    have C2 := C'.step s2 (gr.ss C'.ss)
    rw [List.drop_eq_getElem_cons hlt] at q'
    refine turn_of hl hb (by have := congrArg List.length hyz; rw [List.length_append, List.length_append] at this; omega) C2 r2 q' fun e3 F3 H3 fp3 ys3 zs3 ⟨H4, s4, h4⟩ C3 q3 h3 => ?_
    refine ⟨rfl, hlt, e3, F3, fp3, ys3, zs3, ?_, (sub.trans s2.ext).trans s4.ext, C3, q3, h3.trans hyz⟩
    have s5 := (s'.trans s2).trans s4
    rcases h4 with rfl | ⟨o, rfl⟩
    · exact s5
    · exact s5.grow h0
  · have ei : i = ds.length := by omega
    subst ei
    rw [List.drop_length] at q'
    cases q'
    rw [List.append_nil] at hyz
    subst hyz
    exact .inl ⟨stop (Nat.le_refl _) (Nat.le_refl _), hN F' H' fp' s' sub C'⟩
theorem wipe_wipe {σ : L2.St} {vs vs1 : List Nat} (h : ∀ i ∈ vs1, i ∈ vs) : wipe (wipe σ vs1) vs = wipe σ vs := wipe_off (l := vs1) ⟨wipe_length σ vs1, fun j hj => wipe_out hj⟩ h
theorem comp2_of {vs vs1 l l1 : List Nat} {fi fi1 : EM (List D)} {t t1 : D → EM Unit} {tt tt1 : EM Bool} {te : EM D} {H : Hp} {Q : VK} (hl : ∀ i ∈ l, i ∈ vs) (hl1 : ∀ i ∈ l1, i ∈ vs1) (hv : ∀ i ∈ vs1, i ∈ vs) (hb : vs.all (fun i => (bv i).isNone) = true)
    (h : tE K W bv (compE2 vs vs1 fi t tt fi1 t1 tt1 te) σ H Q) : tLc2 (tI K W bv fi) (tTg K bv l t) (tT K W0 bv tt) (tI K W0 bv fi1) (tTg K bv l1 t1) (tT K W0 bv tt1) (tE K W0 bv te) vs vs1 σ H Q := by
  have hb1 : vs1.all (fun i => (bv i).isNone) = true := by
    rw [List.all_eq_true] at hb ⊢
    exact fun i hi => hb i (hv i hi)
  obtain ⟨e, F, fp, S, q⟩ := h
  refine ⟨e, F, fp, S, ?_⟩
  unfold AtG compE2 bnd at q
  cases z : fi e with
  | no => rw [z] at q; exact q
  | ex C fs e' => rw [z] at q; exact q
  | ok ds e1 =>
    rw [z] at q
    intro J F1 H1 fp1 s1 S1 wk A hA
    dsimp only at q
    by_cases hw : vs.all (imAt e1) = true
    · rw [if_pos hw] at q
      cases z2 : compL2 vs vs1 t tt fi1 t1 tt1 te ds (wipeE e1 vs) with
      | no => rw [z2] at q; exact q.elim
      | ex _ _ _ => rw [z2] at q; exact q.elim
      | ok zs ef =>
        rw [z2] at q
        dsimp only at q
        by_cases hfew : (few zs.length && vs.all (imAt ef)) = true
        · rw [if_pos hfew] at q
          rw [Bool.and_eq_true] at hfew
          have hz : zs.length ≤ 1000000 := of_decide_eq_true hfew.1
          have S1' := S1.wipe hw hb
          have fA : F1 A = none := S1.sub.non hA
          have pA : ¬ Pf fp1 A := fun ⟨i, h⟩ => by
            obtain ⟨o, ho⟩ := S1.live h
            rw [hA] at ho
            cases ho
          have C0 : CS K bv (wipeE e1 vs) (wipe σ vs) F1 (upd H1 A (.lst [])) fp1 A [] := by
            refine ⟨S1'.heap (Sub.refl F1) (S1.sub.mut fA) (fun i a o h q => ?_) S1.fr, ⟨[], upd_same, .nil⟩, fA, pA⟩
            rw [upd_ne (ne_of_none q hA)]
            exact q
          refine ⟨fun i m H' => m = ds.length - i ∧ i ≤ ds.length ∧ ∃ e' F' fp' ys zs', Stp F1 H1 (Pf fp1) F' H' (Pf fp') ∧ CS K bv e' (wipe σ vs) F' H' fp' A ys ∧ compL2 vs vs1 t tt fi1 t1 tt1 te (ds.drop i) e' = .ok zs' ef ∧ ys ++ zs' = zs, ⟨ds.length, rfl, Nat.zero_le _, wipeE e1 vs, F1, fp1, [], zs, (Stp.refl _ _ _).grow hA, C0, z2, rfl⟩, ?_⟩
          rintro i m H' ⟨rfl, hi, e', F', fp', ys, zs', s', C', q', hyz⟩
          obtain ⟨go, stop⟩ := wk F' H' i s'.ext C'.ss.sub
          by_cases hlt : i < ds.length
          · refine .inr ⟨(go ds[i] (List.getElem?_eq_getElem hlt)).1, _, fun H2 h2 => ⟨ds.length - (i + 1), by omega, h2⟩, fun x H2 y => ?_⟩
            obtain ⟨F2, gr, r2⟩ := (go ds[i] (List.getElem?_eq_getElem hlt)).2 x H2 y
            have s2 : Stp F' H' (Pf fp') F2 H2 (Pf fp') := gr.stp C'.ss.sub
            have C2 := C'.step s2 (gr.ss C'.ss)
            have s02 := s'.trans s2
            rw [List.drop_eq_getElem_cons hlt] at q'
            -- the outer target
            refine ⟨e', F2, fp', ds[i], C2.ss, r2, ?_⟩
            simp only [compL2] at q'
            cases z3 : t ds[i] e' with
            | no => rw [z3] at q'; cases q'
            | ex _ _ _ => rw [z3] at q'; cases q'
            | ok _ e3 =>
              rw [z3] at q'
              dsimp only at q' ⊢
              intro σ2 F3 H3 fp3 o3 s3 S3
              have w2 := wipe_off (vs := vs) o3 hl
              rw [wipe_wipe (fun _ h => h)] at w2
              refine ⟨w2, e3, F3, fp3, S3, ?_⟩
              unfold AtG
              cases z4 : tt e3 with
              | no => rw [z4] at q'; cases q'
              | ex _ _ _ => rw [z4] at q'; cases q'
              | ok b e4 =>
                rw [z4] at q'
                intro b' F4 H4 fp4 P4 s4 S4 hb4
                obtain ⟨rfl, hb4⟩ := hb4
                cases (show b' = b from hb4)
                have s34 := s3.trans s4
                cases b with
                | false =>
                  rw [if_neg Bool.false_ne_true]
                  dsimp only at q'
                  split at q'
                  · rename_i hw4
                    have S4' := S4.wipe hw4 hb
                    rw [w2] at S4'
                    exact ⟨rfl, hlt, _, F4, fp4, ys, zs', s02.trans s34, C2.step s34 S4', q', hyz⟩
                  · cases q'
                | true =>
                  rw [if_pos rfl]
                  dsimp only at q'
                  refine ⟨e4, F4, fp4, S4, ?_⟩
                  cases z5 : fi1 e4 with
                  | no => rw [z5] at q'; cases q'
                  | ex _ _ _ => rw [z5] at q'; cases q'
                  | ok ds1 e5 =>
                    rw [z5] at q'
                    dsimp only at q' ⊢
                    intro J1 F5 H5 fp5 s5 S5 wk1
                    split at q'
                    · rename_i hw5
                      cases z6 : compL vs1 t1 tt1 te ds1 (wipeE e5 vs1) with
                      | no => rw [z6] at q'; cases q'
                      | ex _ _ _ => rw [z6] at q'; cases q'
                      | ok ys1 e6 =>
                        rw [z6] at q'
                        dsimp only at q'
                        split at q'
                        · rename_i hw6
                          cases z7 : compL2 vs vs1 t tt fi1 t1 tt1 te (ds.drop (i + 1)) (wipeE e6 vs) with
                          | no => rw [z7] at q'; cases q'
                          | ex _ _ _ => rw [z7] at q'; cases q'
                          | ok zs2 e7 =>
                            rw [z7] at q'
                            cases q'
                            have s35 := s34.trans s5
                            have C5 := C2.step s35 (S5.wipe hw5 hb1)
                            refine inner_of hl1 hb1 ?_ hA (s02.trans s35) C5 wk1 z6 fun F8 H8 fp8 s8 sub8 C8 => ?_
                            · rw [← hyz, List.length_append, List.length_append] at hz
                              omega
                            · have S8 := C8.ss.wipe hw6 hb
                              rw [wipe_wipe hv, w2] at S8
                              exact ⟨rfl, hlt, wipeE e6 vs, F8, fp8, ys ++ ys1, zs2, s8, ⟨S8, C8.li, C8.nf, C8.np⟩, z7, by rw [← hyz, List.append_assoc]⟩
                        · cases q'
                    · cases q'
          · have ei : i = ds.length := by omega
            subst ei
            rw [List.drop_length] at q'
            cases q'
            rw [List.append_nil] at hyz
            subst hyz
            obtain ⟨F2, s2, S2, r2⟩ := C'.done s' hA
            exact .inl ⟨stop (Nat.le_refl _) (Nat.le_refl _), q _ F2 H' fp' (Pf fp') (s1.trans s2) (S1.unwipe hw s2.ext S2 hfew.2) ⟨rfl, r2⟩⟩
        · rw [if_neg hfew] at q
          exact q.elim
    · rw [if_neg hw] at q
      exact q.elim
end
section
variable {X : Cx} {W : WX} {bv : Nat → Option V} {pos : Pos}
theorem mem_of_all {l vs : List Nat} (h : l.all (vs.contains ·) = true) : ∀ i ∈ l, i ∈ vs := fun i hi => by
  rw [List.all_eq_true] at h
  exact List.contains_iff_mem.mp (h i hi)
theorem de_comp2 {elt tg iter tg1 iter1 : Expr} {ifs ifs1 : List Expr} {scope : Scope} (own : List (Str × Nat)) (vs1 : List Nat) {l l1 : List Nat} {fi fi1 : EM (List D)} {t t1 : D → EM Unit} {tt tt1 : EM Bool} {te : EM D} (hN : X.N.Nodup) (hi : DI X W bv tg iter fi) (ok : BlkOk X.N X.env.scope scope own)
    (hg : ∀ (s : Shared) (H : Hp) (C : Addr) (cl : List (Str × Addr)) (fp : List Addr), DG (X.blk s H scope (compEnvC scope cl C X.env) fp) bv tg l t) (ht : ∀ (s : Shared) (H : Hp) (C : Addr) (cl : List (Str × Addr)) (fp : List Addr), DTs (X.blk s H scope (compEnvC scope cl C X.env) fp) W0 bv ifs tt)
    (hi1 : ∀ (s : Shared) (H : Hp) (C : Addr) (cl : List (Str × Addr)) (fp : List Addr), DI (X.blk s H scope (compEnvC scope cl C X.env) fp) W0 bv tg1 iter1 fi1)
    (hg1 : ∀ (s : Shared) (H : Hp) (C : Addr) (cl : List (Str × Addr)) (fp : List Addr), DG (X.blk s H scope (compEnvC scope cl C X.env) fp) bv tg1 l1 t1) (ht1 : ∀ (s : Shared) (H : Hp) (C : Addr) (cl : List (Str × Addr)) (fp : List Addr), DTs (X.blk s H scope (compEnvC scope cl C X.env) fp) W0 bv ifs1 tt1)
    (he : ∀ (s : Shared) (H : Hp) (C : Addr) (cl : List (Str × Addr)) (fp : List Addr), DE (X.blk s H scope (compEnvC scope cl C X.env) fp) W0 bv elt te) (hl : l.all ((own.map (·.2)).contains ·) = true := by rfl) (hl1 : l1.all (vs1.contains ·) = true := by rfl) (hv : vs1.all ((own.map (·.2)).contains ·) = true := by rfl)
    (hb : (own.map (·.2)).all (fun i => (bv i).isNone) = true := by rfl)
    (hc : X.calm = true := by rfl) (hs : ∀ x, foldedSetIterable iter X.env x = pure x := by intro _; rfl) (hs1 : ∀ env x, foldedSetIterable iter1 env x = pure x := by intro _ _; rfl) :
    DE X W bv (.ListComp elt [⟨tg, iter, ifs, 0⟩, ⟨tg1, iter1, ifs1, 0⟩] scope pos) (compE2 (own.map (·.2)) vs1 fi t tt fi1 t1 tt1 te) :=
  pe_imp (pe_lc2 hc hN hi ok (mem_of_all hv) hg ht hi1 hg1 ht1 he hs hs1) fun σ H Q h => comp2_of (mem_of_all hl) (mem_of_all hl1) (mem_of_all hv) hb h
end
end FD

/-! FD: built-in functions of data. -/
namespace FD
open PySem L2
/-- a rule of a built-in serves a function of data -/
def CbV (K : PySem.W.Frag) (r : List V → Hp → VK → Prop) (g : List D → Option D) : Prop := ∀ (W : WX) (bv : Nat → Option V) (e : Env) (σ : L2.St) (F H : Hp) (fp : Nat → List Addr) (vs : List V) (ds : List D) (Q : VK),
  SS K bv e σ F H fp → RpL K F vs ds → AtG K W bv (smp (rD K)) (lif (g ds)) e σ F H fp Q → r vs H Q
def CbD (X : Cx) (f : Value) (g : List D → Option D) : Prop := ∃ r, CallR X f r ∧ CbV X.K r g
def cbE (g : List D → Option D) (fs : EM (List D)) : EM D := bnd fs fun ds => lif (g ds)
theorem cb_of {K : PySem.W.Frag} {W : WX} {bv : Nat → Option V} {σ : L2.St} {H : Hp} {r : List V → Hp → VK → Prop} {g : List D → Option D} {fs : EM (List D)} {Q : VK} (h : CbV K r g) (t : tE K W bv (cbE g fs) σ H Q) : tCB r (tA K W bv fs) σ H Q :=
  tG.mono (tG.bnd (r := rL K) t) fun x H1 ⟨d, e1, F1, fp1, S1, r1, q1⟩ => h W bv e1 σ F1 H1 fp1 x d Q S1 r1 q1
section
variable {X : Cx} {W : WX} {bv : Nat → Option V} {pos p : Pos} {a b : Expr} {es : List Expr} {fa fb : EM D} {fs : EM (List D)} {g : List D → Option D} {x : Str}
theorem de_callB {id : String} (hc : CbD X (.builtin id) g) (hm : X.mg x = none) (ha : DA X W bv (a :: es) fs) (hv : bootBuiltins x = some (.builtin id) := by rfl) (hg : Gl X x := by rfl) (hn : x ≠ "__name__" := by decide) (hdb : (x == ("__debug__" : Str)) = false := by decide)
    (he : starEach (a :: es) X.env = (false, eval a X.env) :: starEach es X.env := by rfl) (hpl : (backTo pos (starEach es X.env)).any (·.1) = false := by rfl) : DE X W bv (.Call (.Name x p) (a :: es) [] pos) (cbE g fs) := by
  obtain ⟨r, hr, h⟩ := hc
  exact pe_imp (pe_callB hr hg hm hv ha hn hdb he hpl) fun σ H Q t => cb_of h t
theorem de_callT {T : String} (hc : CbD X (.type T) g) (hm : X.mg x = none) (ha : DA X W bv (a :: es) fs) (hv : bootBuiltins x = some (.type T) := by rfl) (hg : Gl X x := by rfl) (hn : x ≠ "__name__" := by decide) (hdb : (x == ("__debug__" : Str)) = false := by decide)
    (he : starEach (a :: es) X.env = (false, eval a X.env) :: starEach es X.env := by rfl) (hpl : (backTo pos (starEach es X.env)).any (·.1) = false := by rfl) : DE X W bv (.Call (.Name x p) (a :: es) [] pos) (cbE g fs) := by
  obtain ⟨r, hr, h⟩ := hc
  exact pe_imp (pe_callTy hr hg hm hv ha hn hdb he hpl) fun σ H Q t => cb_of h t
/-! ### len -/
def lenD : List D → Option D
  | [.list ds] => some (.int ds.length)
  | [.tuple ds] => some (.int ds.length)
  | [.str z] => if few z.length then some (.int z.length) else none
  | [.dict kvs] => some (.int kvs.length)
  | _ => none
def rLenR : List V → Hp → VK → Prop := fun xs H Q => ∃ p : Addr, xs = [.ref p] ∧ ((∃ kvs, Rd H p (.dK kvs) ∧ Q (.int (kvs.length : Nat)) H) ∨ ∃ kvs, Rd H p (.dT kvs) ∧ Q (.int (kvs.length : Nat)) H)
theorem call_lenR : CallR X (.builtin "len") rLenR := by
  intro pins s σ H xs us Q I r h
  obtain ⟨p, rfl, h⟩ := h
  obtain ⟨u, rfl, rx⟩ := vals1 r
  cases (show u = Value.ref p from rx)
  rcases h with ⟨kvs, hp, q⟩ | ⟨kvs, hp, q⟩
  · obtain ⟨z, hd, ys, rel, dd⟩ := dk_rd I.hok hp
    have hl : ys.length = kvs.length := (Paired.length rel).symm
    refine call_len_dict hd dd (by rw [hl]; rw [sizeLine_eq] at z; omega) ?_
    rw [hl]
    exact ⟨.int (kvs.length : Nat), H, I.tok _, ⟨_, rfl⟩, q⟩
  · obtain ⟨z, hd, ys, rel, dd⟩ := dt_rd I.hok hp
    have hl : ys.length = kvs.length := (Paired.length rel).symm
    refine call_len_dictH hd dd (by rw [hl]; rw [sizeLine_eq] at z; omega) ?_
    rw [hl]
    exact ⟨.int (kvs.length : Nat), H, I.tok _, ⟨_, rfl⟩, q⟩
theorem cb_len : CbD X (.builtin "len") lenD := by
  refine ⟨_, CallR.or call_len_seq (CallR.or call_len_str call_lenR), ?_⟩
  intro W bv e σ F H fp vs ds Q S r q
  obtain ⟨d, hd, q'⟩ := q.lif
  cases r with
  | nil => cases hd
  | cons r1 r =>
    cases r with
    | cons _ _ => cases r1 <;> cases hd
    | nil =>
      cases r1 with
      | lst h rl =>
        cases hd
        refine .inl ⟨_, _, rfl, .inl (S.sub.l h), ?_⟩
        rw [rl.length]
        exact AtG.here (r := rD X.K) S q' (.int _)
      | tup h rl =>
        cases hd
        refine .inl ⟨_, _, rfl, .inr (S.sub.t h), ?_⟩
        rw [rl.length]
        exact AtG.here (r := rD X.K) S q' (.int _)
      | str z =>
        simp only [lenD] at hd
        split at hd
        · rename_i hz
          cases hd
          exact .inr (.inl ⟨z, rfl, few_le hz, AtG.here (r := rD X.K) S q' (.int _)⟩)
        · cases hd
      | dK h k rl =>
        rename_i kvs kds
        cases hd
        refine .inr (.inr ⟨_, rfl, .inl ⟨_, S.sub.rd _ _ h, ?_⟩⟩)
        have : kvs.length = kds.length := by simpa using congrArg List.length k
        rw [this, ← List.length_map (as := kds) (f := fun p => (keyD p.1, p.2))]
        exact AtG.here (r := rD X.K) S q' (.int _)
      | dT h k rl =>
        rename_i kvs kds
        cases hd
        refine .inr (.inr ⟨_, rfl, .inr ⟨_, S.sub.rd _ _ h, ?_⟩⟩)
        have : kvs.length = kds.length := by simpa using congrArg List.length k
        rw [this, ← List.length_map (as := kds) (f := fun p => (PyData.tuple (p.1.map keyD), p.2))]
        exact AtG.here (r := rD X.K) S q' (.int _)
      | _ => cases hd
/-! ### bools, ints in lists -/
def boolsOf : List D → Option (List Bool)
  | [] => some []
  | .bool b :: r => (boolsOf r).map (b :: ·)
  | _ => none
def intsOf : List D → Option (List Int)
  | [] => some []
  | .int b :: r => (intsOf r).map (b :: ·)
  | _ => none
theorem RpL.bools {K : PySem.W.Frag} {F : Hp} : ∀ {vs : List V} {ds : List D} {bs : List Bool}, RpL K F vs ds → boolsOf ds = some bs → vs = bs.map V.bl
  | _, _, _, .nil, h => by cases h; rfl
  | _, _, _, .cons r1 r, h => by
    cases r1 with
    | bl b =>
      obtain ⟨bs', h1, rfl⟩ := Option.map_eq_some_iff.mp h
      rw [List.map_cons, r.bools h1]
    | _ => cases h
theorem RpL.ints {K : PySem.W.Frag} {F : Hp} : ∀ {vs : List V} {ds : List D} {bs : List Int}, RpL K F vs ds → intsOf ds = some bs → vs = bs.map V.int
  | _, _, _, .nil, h => by cases h; rfl
  | _, _, _, .cons r1 r, h => by
    cases r1 with
    | int b =>
      obtain ⟨bs', h1, rfl⟩ := Option.map_eq_some_iff.mp h
      rw [List.map_cons, r.ints h1]
    | _ => cases h
def anyD : List D → Option D
  | [.list ds] => (boolsOf ds).map fun bs => .bool (bs.any id)
  | _ => none
def allD : List D → Option D
  | [.list ds] => (boolsOf ds).map fun bs => .bool (bs.all id)
  | _ => none
def sumD : List D → Option D
  | [.list ds] => (intsOf ds).map fun ns => .int ns.sum
  | _ => none
theorem one_list {K : PySem.W.Frag} {F : Hp} {vs : List V} {ds : List D} {d : D} {h : List D → Option D} {k : List D → Option D} (hh : ∀ ds, h ds = match ds with | [.list es] => k es | _ => none) (r : RpL K F vs ds) (hd : h ds = some d) : ∃ a us es, vs = [.ref a] ∧ SqL K F a us ∧ RpL K F us es ∧ k es = some d := by
  rw [hh] at hd
  cases r with
  | nil => cases hd
  | cons r1 r =>
    cases r with
    | cons _ _ => cases r1 <;> cases hd
    | nil =>
      cases r1 with
      | lst h rl => exact ⟨_, _, _, rfl, h, rl, hd⟩
      | _ => cases hd
theorem cb_any (hc : X.calm = true := by rfl) : CbD X (.builtin "any") anyD := by
  refine ⟨_, cr_any hc, ?_⟩
  intro W bv e σ F H fp vs ds Q S r q
  obtain ⟨d, hd, q'⟩ := q.lif
  obtain ⟨a, us, es, rfl, h1, h2, h3⟩ := one_list (h := anyD) (k := fun ds => (boolsOf ds).map fun bs => .bool (bs.any id)) (fun ds => by unfold anyD; rfl) r hd
  obtain ⟨bs, h4, rfl⟩ := Option.map_eq_some_iff.mp h3
  exact ⟨a, bs, rfl, by rw [← h2.bools h4]; exact S.sub.l h1, AtG.here (r := rD X.K) S q' (.bl _)⟩
theorem cb_all (hc : X.calm = true := by rfl) : CbD X (.builtin "all") allD := by
  refine ⟨_, cr_all hc, ?_⟩
  intro W bv e σ F H fp vs ds Q S r q
  obtain ⟨d, hd, q'⟩ := q.lif
  obtain ⟨a, us, es, rfl, h1, h2, h3⟩ := one_list (h := allD) (k := fun ds => (boolsOf ds).map fun bs => .bool (bs.all id)) (fun ds => by unfold allD; rfl) r hd
  obtain ⟨bs, h4, rfl⟩ := Option.map_eq_some_iff.mp h3
  exact ⟨a, bs, rfl, by rw [← h2.bools h4]; exact S.sub.l h1, AtG.here (r := rD X.K) S q' (.bl _)⟩
theorem cb_sum (hc : X.calm = true := by rfl) : CbD X (.builtin "sum") sumD := by
  refine ⟨_, cr_sum hc, ?_⟩
  intro W bv e σ F H fp vs ds Q S r q
  obtain ⟨d, hd, q'⟩ := q.lif
  obtain ⟨a, us, es, rfl, h1, h2, h3⟩ := one_list (h := sumD) (k := fun ds => (intsOf ds).map fun bs => .int bs.sum) (fun ds => by unfold sumD; rfl) r hd
  obtain ⟨bs, h4, rfl⟩ := Option.map_eq_some_iff.mp h3
  exact ⟨a, bs, rfl, by rw [← h2.ints h4]; exact S.sub.l h1, AtG.here (r := rD X.K) S q' (.int _)⟩
/-! ### min, max -/
def minI : List Int → Option Int
  | [] => none
  | n :: ns => some (ns.foldl min n)
def maxI : List Int → Option Int
  | [] => none
  | n :: ns => some (ns.foldl max n)
theorem foldl_min_le : ∀ (ns : List Int) (n : Int), ns.foldl min n ≤ n ∧ ∀ y ∈ ns, ns.foldl min n ≤ y
  | [], n => ⟨Int.le_refl n, fun y h => by cases h⟩
  | a :: ns, n => by
    have ih := foldl_min_le ns (min n a)
    rw [List.foldl_cons]
    refine ⟨by omega, fun y hy => ?_⟩
    rcases List.mem_cons.mp hy with e | hy
    · subst e; omega
    · exact ih.2 y hy
theorem foldl_min_mem : ∀ (ns : List Int) (n : Int), ns.foldl min n = n ∨ ns.foldl min n ∈ ns
  | [], n => .inl rfl
  | a :: ns, n => by
    rw [List.foldl_cons]
    rcases foldl_min_mem ns (min n a) with h | h
    · rw [h]
      rcases Int.le_total n a with q | q
      · exact .inl (Int.min_eq_left q)
      · exact .inr (by rw [Int.min_eq_right q]; exact List.mem_cons_self)
    · exact .inr (List.mem_cons_of_mem _ h)
theorem foldl_max_le : ∀ (ns : List Int) (n : Int), n ≤ ns.foldl max n ∧ ∀ y ∈ ns, y ≤ ns.foldl max n
  | [], n => ⟨Int.le_refl n, fun y h => by cases h⟩
  | a :: ns, n => by
    have ih := foldl_max_le ns (max n a)
    rw [List.foldl_cons]
    refine ⟨by omega, fun y hy => ?_⟩
    rcases List.mem_cons.mp hy with e | hy
    · subst e; omega
    · exact ih.2 y hy
theorem foldl_max_mem : ∀ (ns : List Int) (n : Int), ns.foldl max n = n ∨ ns.foldl max n ∈ ns
  | [], n => .inl rfl
  | a :: ns, n => by
    rw [List.foldl_cons]
    rcases foldl_max_mem ns (max n a) with h | h
    · rw [h]
      rcases Int.le_total n a with q | q
      · exact .inr (by rw [Int.max_eq_right q]; exact List.mem_cons_self)
      · exact .inl (Int.max_eq_left q)
    · exact .inr (List.mem_cons_of_mem _ h)
def minD : List D → Option D
  | [.int i, .int j] => some (.int (if j < i then j else i))
  | [.list ds] => (intsOf ds).bind fun ns => (minI ns).map .int
  | _ => none
def maxD : List D → Option D
  | [.int i, .int j] => some (.int (if j > i then j else i))
  | [.list ds] => (intsOf ds).bind fun ns => (maxI ns).map .int
  | _ => none
theorem two_or_list {K : PySem.W.Frag} {F : Hp} {vs : List V} {ds : List D} {d : D} {h : List D → Option D} {k2 : Int → Int → Option D} {k : List D → Option D} (hh : ∀ ds, h ds = match ds with | [.int i, .int j] => k2 i j | [.list es] => k es | _ => none) (r : RpL K F vs ds) (hd : h ds = some d) :
    (∃ i j, vs = [.int i, .int j] ∧ k2 i j = some d) ∨ ∃ a us es, vs = [.ref a] ∧ SqL K F a us ∧ RpL K F us es ∧ k es = some d := by
  rw [hh] at hd
  cases r with
  | nil => cases hd
  | cons r1 r =>
    cases r with
    | cons r2 r =>
      cases r with
      | nil => cases r1 <;> cases r2 <;> first | (cases hd; done) | exact .inl ⟨_, _, rfl, hd⟩
      | cons _ _ => cases r1 <;> cases r2 <;> cases hd
    | nil =>
      cases r1 with
      | lst h rl => exact .inr ⟨_, _, _, rfl, h, rl, hd⟩
      | _ => cases hd
theorem cb_min (hc : X.calm = true := by rfl) : CbD X (.builtin "min") minD := by
  refine ⟨_, CallR.or (call_min2 hc) (cr_min hc), ?_⟩
  intro W bv e σ F H fp vs ds Q S r q
  obtain ⟨d, hd, q'⟩ := q.lif
  rcases two_or_list (h := minD) (k2 := fun i j => some (.int (if j < i then j else i))) (k := fun ds => (intsOf ds).bind fun ns => (minI ns).map .int) (fun ds => by unfold minD; rfl) r hd with ⟨i, j, rfl, h⟩ | ⟨a, us, es, rfl, h1, h2, h3⟩
  · cases h
    exact .inl ⟨i, j, rfl, AtG.here (r := rD X.K) S q' (.int _)⟩
  · obtain ⟨ns, h4, h5⟩ := Option.bind_eq_some_iff.mp h3
    obtain ⟨m, h6, rfl⟩ := Option.map_eq_some_iff.mp h5
    cases ns with
    | nil => cases h6
    | cons n ns =>
      cases h6
      refine .inr ⟨a, n :: ns, rfl, by rw [← h2.ints h4]; exact S.sub.l h1, Nat.succ_pos _, fun m hm hle => ?_⟩
      have : m = ns.foldl min n := by
        have hl := foldl_min_le ns n
        have hmem : ns.foldl min n ∈ n :: ns := (foldl_min_mem ns n).elim (fun e => by rw [e]; exact List.mem_cons_self) (List.mem_cons_of_mem _)
        have a1 := hle _ hmem
        have a2 : ns.foldl min n ≤ m := (List.mem_cons.mp hm).elim (fun e => by rw [e]; exact hl.1) (hl.2 m)
        omega
      rw [this]
      exact AtG.here (r := rD X.K) S q' (.int _)
theorem cb_max (hc : X.calm = true := by rfl) : CbD X (.builtin "max") maxD := by
  refine ⟨_, CallR.or (call_max2 hc) (cr_max hc), ?_⟩
  intro W bv e σ F H fp vs ds Q S r q
  obtain ⟨d, hd, q'⟩ := q.lif
  rcases two_or_list (h := maxD) (k2 := fun i j => some (.int (if j > i then j else i))) (k := fun ds => (intsOf ds).bind fun ns => (maxI ns).map .int) (fun ds => by unfold maxD; rfl) r hd with ⟨i, j, rfl, h⟩ | ⟨a, us, es, rfl, h1, h2, h3⟩
  · cases h
    exact .inl ⟨i, j, rfl, AtG.here (r := rD X.K) S q' (.int _)⟩
  · obtain ⟨ns, h4, h5⟩ := Option.bind_eq_some_iff.mp h3
    obtain ⟨m, h6, rfl⟩ := Option.map_eq_some_iff.mp h5
    cases ns with
    | nil => cases h6
    | cons n ns =>
      cases h6
      refine .inr ⟨a, n :: ns, rfl, by rw [← h2.ints h4]; exact S.sub.l h1, Nat.succ_pos _, fun m hm hle => ?_⟩
      have : m = ns.foldl max n := by
        have hl := foldl_max_le ns n
        have hmem : ns.foldl max n ∈ n :: ns := (foldl_max_mem ns n).elim (fun e => by rw [e]; exact List.mem_cons_self) (List.mem_cons_of_mem _)
        have a1 := hle _ hmem
        have a2 : m ≤ ns.foldl max n := (List.mem_cons.mp hm).elim (fun e => by rw [e]; exact hl.1) (hl.2 m)
        omega
      rw [this]
      exact AtG.here (r := rD X.K) S q' (.int _)
/-! ### tuple(x), list(x) -/
def chars (z : Str) : List D := z.cps.toList.map fun c => .str ⟨#[c]⟩
def tupleD : List D → Option D
  | [.list ds] => some (.tuple ds)
  | [.tuple ds] => some (.tuple ds)
  | [.str z] => if few z.length then some (.tuple (chars z)) else none
  | _ => none
def charsV (z : Str) : List V := z.cps.toList.map fun c => .str ⟨#[c]⟩
theorem rpl_chars {K : PySem.W.Frag} {F : Hp} : ∀ l : List Nat, RpL K F (l.map fun c => V.str ⟨#[c]⟩) (l.map fun c => .str ⟨#[c]⟩)
  | [] => .nil
  | c :: l => .cons (.str _) (rpl_chars l)
def rTupS : List V → Hp → VK → Prop := fun xs H Q => ∃ z, xs = [.str z] ∧ z.length ≤ sizeLine ∧ ∀ p, H p = none → Q (.ref p) (upd H p (.tup (charsV z)))
theorem vals_chars {z : Str} {acc : Array Value} (h : ItemsOf (SignAt z) acc z.cps.size) : Vals (charsV z) acc.toList := by
  unfold charsV
  have e : z.cps.toList.length = acc.toList.length := by rw [Array.length_toList, Array.length_toList]; exact h.1.symm
  refine vals_of_at (by rw [List.length_map]; exact e) fun j x u hx hu => ?_
  rw [List.getElem?_map] at hx
  obtain ⟨c, hc, rfl⟩ := Option.map_eq_some_iff.mp hx
  have hu' : acc[j]? = some u := by rw [← hu, Array.getElem?_toList]
  have := h.2 j u hu'
  unfold SignAt at this
  have hc' : z.cps[j]? = some c := by rw [← hc, Array.getElem?_toList]
  obtain ⟨c', t, h1, rfl⟩ := this
  rw [hc'] at h1
  cases h1
  exact ⟨_, rfl⟩
theorem call_tupS (hc : X.calm = true) : CallR X (.type "tuple") rTupS := by
  intro pins s σ H xs us Q I r h
  obtain ⟨z, rfl, hz, q⟩ := h
  obtain ⟨u, rfl, rx⟩ := vals1 r
  obtain ⟨t, rfl⟩ := rx
  refine call_tuple_str (I.ok.hd hc) z t (fun h' tk acc hk hi => ?_) hz
  have I2 : Inv X pins σ H { s with heap := h', toks := tk } := I.kept hk
  refine ⟨.ref h'.objs.size, _, I2.laid (t' := tk) (fun c o e => Heap.get?_push_of_some _ e) (Nat.le_refl _) (show ObjOk X.prog X.w _ _ _ (.tup (charsV z)) from ⟨?_, acc.toList, vals_chars hi, ?_⟩), rfl, q _ (I2.hok.fresh (Nat.le_refl _))⟩
  · unfold charsV; rw [List.length_map, Array.length_toList]; exact hz
  · rw [Array.toArray_toList]; exact PyProof.Rows.IsTup.new _ _
theorem cb_tuple (hc : X.calm = true := by rfl) : CbD X (.type "tuple") tupleD := by
  refine ⟨_, CallR.or call_tuple_of (call_tupS hc), ?_⟩
  intro W bv e σ F H fp vs ds Q S r q
  obtain ⟨d, hd, q'⟩ := q.lif
  cases r with
  | nil => cases hd
  | cons r1 r =>
    cases r with
    | cons _ _ => cases r1 <;> cases hd
    | nil =>
      cases r1 with
      | lst h rl =>
        cases hd
        refine .inl ⟨_, _, rfl, .inl ⟨S.sub.l h, fun p hp => ?_⟩⟩
        exact AtG.made (r := rD X.K) S q' hp (.tup upd_same (RpL.mono (Sub.new (S.sub.non hp)) rl))
      | tup h rl =>
        cases hd
        exact .inl ⟨_, _, rfl, .inr ⟨S.sub.t h, AtG.here (r := rD X.K) S q' (.tup h rl)⟩⟩
      | str z =>
        simp only [tupleD] at hd
        split at hd
        · rename_i hz
          cases hd
          refine .inr ⟨z, rfl, few_le hz, fun p hp => ?_⟩
          exact AtG.made (r := rD X.K) S q' hp (.tup upd_same (rpl_chars _))
        · cases hd
      | _ => cases hd
def listD : List D → Option D
  | [.list ds] => some (.list ds)
  | [.tuple ds] => some (.list ds)
  | _ => none
theorem cb_list : CbD X (.type "list") listD := by
  refine ⟨_, call_list_of, ?_⟩
  intro W bv e σ F H fp vs ds Q S r q
  obtain ⟨d, hd, q'⟩ := q.lif
  cases r with
  | nil => cases hd
  | cons r1 r =>
    cases r with
    | cons _ _ => cases r1 <;> cases hd
    | nil =>
      cases r1 with
      | lst h rl =>
        cases hd
        refine ⟨_, _, rfl, .inl (S.sub.l h), fun p hp => ?_⟩
        exact AtG.made (r := rD X.K) S q' hp (.lst (.inl (.inl upd_same)) (RpL.mono (Sub.new (S.sub.non hp)) rl))
      | tup h rl =>
        cases hd
        refine ⟨_, _, rfl, .inr (S.sub.t h), fun p hp => ?_⟩
        exact AtG.made (r := rD X.K) S q' hp (.lst (.inl (.inl upd_same)) (RpL.mono (Sub.new (S.sub.non hp)) rl))
      | _ => cases hd
/-! ### tuple(range(..)), list(range(..)) -/
def fitR (a b : Int) : Bool := small a && small b && decide ((b - a).toNat ≤ 1000000)
theorem rgOk_of {a b : Int} (h : fitR a b = true) : RgOk a b := by
  simp only [fitR, small, Bool.and_eq_true, decide_eq_true_eq] at h
  exact ⟨h.1.1.1, h.1.1.2, h.1.2.1, h.1.2.2, Nat.le_trans h.2 (by decide)⟩
theorem rpl_rg {K : PySem.W.Frag} {F : Hp} {a b : Int} : RpL K F (rgV a b) (rngDs a b) := by
  unfold rgV rngDs
  induction List.range (b - a).toNat with
  | nil => exact .nil
  | cons k l ih => exact .cons (.int _) ih
def rgD (mk : List D → D) : List D → Option D
  | [.int b] => if fitR 0 b then some (mk (rngDs 0 b)) else none
  | [.int a, .int b] => if fitR a b then some (mk (rngDs a b)) else none
  | _ => none
theorem tRg1_of {K : PySem.W.Frag} {σ : L2.St} {H : Hp} {Q : VK} {mk : List D → D} (t : tE K W bv (cbE (rgD mk) (consA fa nilA)) σ H Q) :
    tRg1 (tE K W bv fa) σ H fun i j H1 => RgOk i j ∧ ∃ e1 F1 fp1, SS K bv e1 σ F1 H1 fp1 ∧ AtG K W bv (smp (rD K)) (ret (mk (rngDs i j))) e1 σ F1 H1 fp1 Q := by
  obtain ⟨e, F, fp, S, q⟩ := t
  have q : AtG K W bv (smp (rD K)) (bnd fa fun d => lif (rgD mk [d])) e σ F H fp Q := by
    unfold AtG cbE consA nilA bnd ret at q
    unfold AtG bnd
    cases z : fa e with
    | no => rw [z] at q; exact q
    | ex _ _ _ => rw [z] at q; exact q
    | ok d e1 => rw [z] at q; exact q
  refine tG.mono (AtG.bnd' (r := rD K) S q) fun x H1 ⟨d, e1, F1, fp1, _, S1, r1, q1⟩ => ?_
  obtain ⟨d', hd, q2⟩ := q1.lif
  cases r1 with
  | int b =>
    simp only [rgD] at hd
    split at hd
    · rename_i hz
      cases hd
      exact ⟨b, rfl, rgOk_of hz, e1, F1, fp1, S1, q2⟩
    · cases hd
  | _ => cases hd
theorem de_tupRg1 {p1 p2 : Pos} (hm : X.mg "tuple" = none) (hm2 : X.mg "range" = none) (ha : DE X W bv a fa) (hg : Gl X "tuple" := by rfl) (hg2 : Gl X "range" := by rfl) (hc : X.calm = true := by rfl) (na : starEach [a] X.env = (false, eval a X.env) :: starEach [] X.env := by rfl)
    (na2 : starEach [Expr.Call (.Name "range" p1) [a] [] p2] X.env = (false, eval (Expr.Call (.Name "range" p1) [a] [] p2) X.env) :: starEach [] X.env := by rfl) :
    DE X W bv (.Call (.Name "tuple" p) [.Call (.Name "range" p1) [a] [] p2] [] pos) (cbE (rgD .tuple) (consA fa nilA)) :=
  pe_imp (pe_tupRg hc hg hm (prg_1 hg2 hm2 ha na) na2) fun σ H Q t => by
    refine tG.mono (tRg1_of t) fun x H1 ⟨j, hj, ok, e1, F1, fp1, S1, q⟩ => ⟨j, hj, ok, fun p hp => ?_⟩
    exact AtG.made (r := rD X.K) S1 q hp (.tup upd_same rpl_rg)
theorem de_lstRg1 {p1 p2 : Pos} (hm : X.mg "list" = none) (hm2 : X.mg "range" = none) (ha : DE X W bv a fa) (hg : Gl X "list" := by rfl) (hg2 : Gl X "range" := by rfl) (hc : X.calm = true := by rfl) (na : starEach [a] X.env = (false, eval a X.env) :: starEach [] X.env := by rfl)
    (na2 : starEach [Expr.Call (.Name "range" p1) [a] [] p2] X.env = (false, eval (Expr.Call (.Name "range" p1) [a] [] p2) X.env) :: starEach [] X.env := by rfl) :
    DE X W bv (.Call (.Name "list" p) [.Call (.Name "range" p1) [a] [] p2] [] pos) (cbE (rgD .list) (consA fa nilA)) :=
  pe_imp (pe_listRg hc hg hm (prg_1 hg2 hm2 ha na) na2) fun σ H Q t => by
    refine tG.mono (tRg1_of t) fun x H1 ⟨j, hj, ok, e1, F1, fp1, S1, q⟩ => ⟨j, hj, ok, fun p hp => ?_⟩
    exact AtG.made (r := rD X.K) S1 q hp (.lst (.inl (.inl upd_same)) rpl_rg)
/-! ### isinstance -/
def tyD : D → String
  | .none => "NoneType"
  | .bool _ => "bool"
  | .int _ => "int"
  | .str _ => "str"
  | .list _ => "list"
  | .tuple _ => "tuple"
  | _ => "dict"
def rIsiDT (K : PySem.W.Frag) : List V → Hp → VK → Prop := fun xs H Q => ∃ (a : Addr) (kvs : List (List Key × V)) (c : V) (u : Value) (b : Bool), xs = [.ref a, c] ∧ ClsV c u ∧ Rd H a (.dT kvs) ∧ PySem.W.kitOne K (.type "dict") u = some b ∧ Q (.bl b) H
theorem call_isiDT : CallR X (.builtin "isinstance") (rIsiDT X.K) := by
  intro pins s σ H xs us Q I r h
  obtain ⟨a, kvs, c, u, b, rfl, k, hd, e, q⟩ := h
  obtain ⟨u1, u2, rfl, r1, r2⟩ := vals2 r
  obtain rfl := k.eq r2
  cases (show u1 = Value.ref a from r1)
  obtain ⟨_, _, xs', _, o, es', ep, h1, h2, _⟩ := dt_rd I.hok hd
  exact PySem.W.kia_one PySem.W.kitx_dict I.kIn ⟨o, h1, h2.1⟩ e (fun z => nomatch z) fun tk => ⟨.bl b, H, I.tok tk, rfl, q⟩
theorem Rp.ty {K : PySem.W.Frag} {F H : Hp} (s : Sub F H) {v : V} {d : D} (r : Rp K F v d) : TyX K H v (.type (tyD d)) ∨ (tyD d = "dict" ∧ ∃ a kvs, v = .ref a ∧ Rd H a (.dT kvs)) := by
  cases r with
  | non => exact .inl (.base .non)
  | bl b => exact .inl (.base (.bl b))
  | int i => exact .inl (.base (.int i))
  | str x => exact .inl (.base (.str x))
  | lst h _ =>
    rcases s.l h with (q | ⟨o, q⟩) | ⟨o, its, n, hk, hcl, _⟩
    · exact .inl (.base (.lst q))
    · exact .inl (.base (.frz q))
    · exact .inl (.kList hk hcl)
  | tup h _ => exact .inl (.base (.tup (s.tp _ _ h)))
  | dK h _ _ =>
    rcases s.rd _ _ h with q | ⟨o, q⟩
    · exact .inl (.base (.dK q))
    · exact .inl (.fDict q)
  | dT h _ _ => exact .inr ⟨rfl, _, _, rfl, s.rd _ _ h⟩
/-- whether data is of a built-in type -/
def isiS (t T : String) : Bool := (t == T) || (T == "int" && t == "bool")
def isiB (T : String) (d : D) : Bool := isiS (tyD d) T
def isiD (T : String) (d : D) : Option D := some (.bool (isiB T d))
def tys : List String := ["NoneType", "bool", "int", "str", "list", "tuple", "dict"]
theorem tyD_in (d : D) : tyD d ∈ tys := by cases d <;> simp [tyD, tys]
def KitD (T : String) : Prop := ∀ t ∈ tys, kitB t T = some (isiS t T)
theorem kit_int : KitD "int" := by unfold KitD; decide +kernel
theorem kit_bool : KitD "bool" := by unfold KitD; decide +kernel
theorem kit_str : KitD "str" := by unfold KitD; decide +kernel
theorem kit_list : KitD "list" := by unfold KitD; decide +kernel
theorem kit_tuple : KitD "tuple" := by unfold KitD; decide +kernel
theorem kit_dict : KitD "dict" := by unfold KitD; decide +kernel
theorem de_isi {T : String} {y : Str} {py : Pos} (hk : KitD T) (hm : X.mg "isinstance" = none) (hmT : X.mg y = none) (ha : DE X W bv a fa) (hy : bootBuiltins y = some (.type T) := by rfl) (hg : Gl X "isinstance" := by rfl) (hgy : Gl X y := by rfl) (hny : y ≠ "__name__" := by decide) (hdy : (y == ("__debug__" : Str)) = false := by decide)
    (he : starEach [a, .Name y py] X.env = (false, eval a X.env) :: starEach [.Name y py] X.env := by rfl) (he2 : starEach [.Name y py] X.env = (false, eval (.Name y py) X.env) :: starEach [] X.env := by rfl) (hpl : (backTo pos (starEach [.Name y py] X.env)).any (·.1) = false := by rfl) :
    DE X W bv (.Call (.Name "isinstance" p) [a, .Name y py] [] pos) (un (isiD T) fa) :=
  pe_imp (pe_callB (CallR.or call_isi call_isiDT) hg hm (by rfl) (pa_cons ha (pa_cons (pe_bltn (v := .ty T) hgy hmT hy rfl hny hdy) pa_nil he2) he) (by decide) (by decide) he hpl) fun σ H Q t => by
    refine tG.mono (tG.bnd (r := rD X.K) t) fun x H1 ⟨d, e1, F1, fp1, S1, r1, q1⟩ => ?_
    have q2 := AtG.here (r := rD X.K) S1 q1 (.bl (isiB T d))
    rcases Rp.ty S1.sub r1 with h | ⟨h, a, kvs, rfl, hr⟩
    · exact .inl ⟨x, .ty T, _, _, _, rfl, .ty T, h, kit_ty (hk _ (tyD_in d)), q2⟩
    · exact .inr ⟨a, kvs, .ty T, _, _, rfl, .ty T, hr, kit_ty (by rw [← h]; exact hk _ (tyD_in d)), q2⟩
/-! ### repr of lists and tuples -/
def isSq : D → Bool
  | .list _ => true
  | .tuple _ => true
  | _ => false
def repOk (d : D) : Bool := isSq d && d.canLay0 && d.showable && d.intsShort 13 && decide (d.depth ≤ 40) && decide (d.weight ≤ 2 ^ 20)
def reprD : List D → Option D
  | [d] => if repOk d then some (.str d.shown) else none
  | _ => none
def rRepr (K : PySem.W.Frag) : List V → Hp → VK → Prop := fun xs H Q => ∃ (v : V) (d : D), xs = [v] ∧ Dp K H v d ∧ repOk d = true ∧ Q (.str d.shown) H
theorem call_reprD {k : Nat} (hg : X.A.guards = some []) (hr : Room k X.A) : CallR X (.builtin "repr") (rRepr X.K) := by
  intro pins s σ H xs us Q I r h
  obtain ⟨v, d, rfl, hd, ok, q⟩ := h
  obtain ⟨u, rfl, rx⟩ := vals1 r
  obtain ⟨as, rd⟩ := Dp.reads I d v u hd rx
  simp only [repOk, Bool.and_eq_true, decide_eq_true_eq] at ok
  obtain ⟨⟨⟨⟨⟨sq, cl⟩, sh⟩, is⟩, dp⟩, wt⟩ := ok
  have href : ∃ a, u = Value.ref a := by
    cases hd <;> first | (cases sq; done) | exact ⟨_, rx⟩
  obtain ⟨a, rfl⟩ := href
  have nd := PyData.hasDict_of_canLay d cl
  have lay : d.layable0 = true := by
    unfold PyData.layable0
    rw [cl, decide_eq_true (show d.depth ≤ 64 by omega), decide_eq_true wt]
    rfl
  refine repr_of_reads' rd sh (fun z => by rw [nd] at z; cases z) hg (by have := hr.un; omega) (fun b o z => z) (fun h' u' tk hk => ?_) (Nat.le_trans (PyProof.Rows.shown_le13 lay is) (by decide))
  exact ⟨.str d.shown, H, I.kept hk, ⟨_, rfl⟩, q⟩
theorem cb_repr {k : Nat} (hg : X.A.guards = some []) (hr : Room k X.A) : CbD X (.builtin "repr") reprD := by
  refine ⟨_, call_reprD hg hr, ?_⟩
  intro W bv e σ F H fp vs ds Q S r q
  obtain ⟨d, hd, q'⟩ := q.lif
  cases r with
  | nil => cases hd
  | cons r1 r =>
    cases r with
    | cons _ _ => cases hd
    | nil =>
      rename_i v d1
      simp only [reprD] at hd
      split at hd
      · rename_i hz
        cases hd
        have cl : d1.canLay0 = true := by
          simp only [repOk, Bool.and_eq_true] at hz
          exact hz.1.1.1.1.2
        exact ⟨v, d1, rfl, r1.dp S.sub cl, hz, AtG.here (r := rD X.K) S q' (.str _)⟩
      · cases hd
/-! ### seq * n -/
def repL (ds : List D) (k : Int) : List D := (List.replicate k.toNat ds).flatten
def mulD : D → D → Option D
  | .tuple ds, .int k => if !ds.isEmpty && decide (2 ≤ k) && decide (k ≤ 1000) && decide (ds.length ≤ 1000) then some (.tuple (repL ds k)) else none
  | x, y => mulI x y
theorem RpL.rep {K : PySem.W.Frag} {F : Hp} {vs : List V} {ds : List D} (r : RpL K F vs ds) : ∀ n : Nat, RpL K F (List.replicate n vs).flatten (List.replicate n ds).flatten
  | 0 => .nil
  | n + 1 => by
    rw [List.replicate_succ, List.replicate_succ, List.flatten_cons, List.flatten_cons]
    exact r.append (RpL.rep r n)
theorem od_mul : OpD X (binaryOp .Mult) mulD := by
  obtain ⟨r, hr, hv⟩ := od_mulI (X := X)
  refine ⟨_, OpR.or hr op_repT, ?_⟩
  intro W bv e σ F H fp x y d1 d2 Q S r1 r2 q
  have r1' := r1
  have r2' := r2
  cases r1 with
  | tup h rl =>
    cases r2 with
    | int k =>
      obtain ⟨d, hd, q'⟩ := q.lif
      simp only [mulD] at hd
      split at hd
      · rename_i hz
        cases hd
        simp only [Bool.and_eq_true, decide_eq_true_eq, Bool.not_eq_true', List.isEmpty_eq_false_iff] at hz
        refine .inr ⟨_, k, _, rfl, rfl, S.sub.t h, fun z => ?_, hz.1.1.2, hz.1.2, by rw [rl.length]; exact hz.2, fun p hp => ?_⟩
        · subst z
          cases rl
          exact hz.1.1.1 rfl
        · exact AtG.made (r := rD X.K) S q' hp (.tup upd_same (RpL.mono (Sub.new (S.sub.non hp)) (rl.rep _)))
      · cases hd
    | _ => exact .inl (hv W bv e σ F H fp _ _ _ _ Q S r1' r2' q)
  | _ => exact .inl (hv W bv e σ F H fp _ _ _ _ Q S r1' r2' (by cases r2 <;> exact q))
/-- [..] * n -/
def repE (fs : EM (List D)) (fb : EM D) : EM D := bnd fs fun ds => if few ds.length then bnd fb fun k => lif (match k with
  | .int k => if decide (-(2 ^ 63) ≤ k) && decide (k < 2 ^ 63) && few (ds.length * k.toNat) then some (.list (repL ds k)) else none
  | _ => none) else lif none
theorem de_rep {pl : Pos} (ha : DA X W bv es fs) (hb : DE X W bv b fb) : DE X W bv (.BinOp (.List es pl) .Mult b pos) (repE fs fb) :=
  pe_imp (pe_op op_rep (pe_lst ha) hb) fun σ H Q t => by
    refine tG.mono (tG.bnd (r := rL X.K) t) fun xs H1 ⟨ds, e1, F1, fp1, S1, r1, q1⟩ => ?_
    by_cases hz : few ds.length = true
    · rw [if_pos hz] at q1
      refine ⟨by rw [RpL.length r1]; exact few_le hz, fun p hp => ?_⟩
      have nF : F1 p = none := S1.sub.non hp
      have S2 : SS X.K bv e1 σ F1 (upd H1 p (.lst xs)) fp1 := S1.heap (Sub.refl F1) (S1.sub.mut nF) (fun i a o h q => by rw [upd_ne (ne_of_none q hp)]; exact q) S1.fr
      have q2 := AtG.bnd (r := rD X.K) (AtG.back (Stp.grow (o := .lst xs) (Stp.refl F1 H1 (Pf fp1)) hp) q1)
      refine tG.mono (⟨e1, _, fp1, S2, q2⟩ : tE X.K W bv fb σ _ _) fun y H3 ⟨k, e3, F3, fp3, _, s3, S3, r3, q3⟩ => ?_
      have hk : H3 p = some (.lst xs) := s3.keep p _ upd_same (fun ⟨i, hi⟩ => by
        obtain ⟨o, ho⟩ := S1.live hi
        rw [hp] at ho
        cases ho) (.inl nF)
      obtain ⟨d, hd, q4⟩ := q3.lif
      cases r3 with
      | int k =>
        dsimp only at hd
        split at hd
        · rename_i hc
          cases hd
          simp only [Bool.and_eq_true, decide_eq_true_eq] at hc
          refine ⟨p, k, xs, rfl, rfl, hk, hc.1.1, hc.1.2, by rw [RpL.length r1]; exact few_le hc.2, fun p' hp' => ?_⟩
          exact AtG.made (r := rD X.K) S3 q4 hp' (.lst (.inl (.inl upd_same)) (RpL.mono (Sub.new (S3.sub.non hp')) ((RpL.mono s3.ext r1).rep _)))
        · cases hd
      | _ => cases hd
    · rw [if_neg hz] at q1
      exact q1.elim
end
end FD

/-! FD: things that a slot owns: made, read, changed. -/
namespace FD
open PySem L2
section
variable {K : PySem.W.Frag} {W : WX} {bv : Nat → Option V} {e : Env} {σ : L2.St} {F H : Hp} {fp : Nat → List Addr}
theorem AtG.mkM {m : M} {Q : VK} {p : Addr} {o : HO} (S : SS K bv e σ F H fp) (h : AtG K W bv (rM K) (FD.ret m) e σ F H fp Q) (hp : H p = none) (ho : Own K F (upd H p o) (.ref p) m [p]) : Q (.ref p) (upd H p o) := by
  have np : ¬ Pf fp p := fun ⟨i, hi⟩ => by
    obtain ⟨u, hu⟩ := S.live hi
    rw [hp] at hu
    cases hu
  refine h (.ref p) F (upd H p o) fp (fun a => Pf fp a ∨ a ∈ [p]) ⟨Sub.refl F, fun a u q _ _ => by rw [upd_ne (ne_of_none q hp)]; exact q, fun a q => ?_, fun a q => .inl q, fun a q => ?_⟩ (S.heap (Sub.refl F) (S.sub.mut (S.sub.non hp)) (fun i a u ha q => by rw [upd_ne (ne_of_none q hp)]; exact q) S.fr) ⟨[p], rfl, ho, by simp, fun a ha => ?_, fun a ha => ?_⟩
  · by_cases z : a = p
    · subst z; exact hp
    · rw [upd_ne z] at q; exact q
  · rcases q with q | q
    · exact .inl q
    · rw [List.mem_singleton] at q
      subst q
      exact .inr hp
  · rw [List.mem_singleton] at ha
    subst ha
    exact np
  · rw [List.mem_singleton] at ha
    subst ha
    exact S.sub.non hp
theorem put_self {i : Nat} : put fp i (fp i) = fp := by
  funext j
  by_cases h : j = i
  · subst h; exact put_same
  · exact put_ne h
/-- the object at a, the head of what slot i owns, becomes another -/
theorem SS.upH {i : Nat} {a : Addr} {fpl : List Addr} {o : HO} {m : M} (S : SS K bv e σ F H fp) (hi : i < e.length) (hv : σ[i]? = some (some (.ref a))) (hf : fp i = a :: fpl) (ho : Own K F (upd H a o) (.ref a) m (a :: fpl)) :
    SS K bv (e.set i (some m)) σ F (upd H a o) fp ∧ Stp F H (Pf fp) F (upd H a o) (Pf fp) := by
  have ha : F a = none := S.fr i a (by rw [hf]; exact List.mem_cons_self)
  have hm : a ∈ fp i := by rw [hf]; exact List.mem_cons_self
  have off : ∀ j, j ≠ i → ∀ b ∈ fp j, b ≠ a := fun j n b hb z => n (S.dj j i b hb (by rw [z]; exact hm))
  constructor
  · have q := S.put (H' := upd H a o) (Sub.refl F) (S.sub.mut ha) hi hv (fun _ _ => rfl) rfl (fun u hu => by
      have z := S.bor i u hu
      rw [hv] at z
      cases z
      rfl) ho (hf ▸ S.nd i) (fun b hb => S.fr i b (by rw [hf]; exact hb)) (fun j n b hb z => n (S.dj j i b hb (by rw [hf]; exact z))) (fun j n b hb u hu => by rw [upd_ne (off j n b hb)]; exact hu) (fun j _ b hb => S.fr j b hb)
    rw [← hf, put_self] at q
    exact q
  · refine ⟨Sub.refl F, fun b u hb n _ => ?_, fun b hb => ?_, fun b hb => .inl hb, fun b hb => .inl hb⟩
    · rw [upd_ne fun z => n ⟨i, by rw [z]; exact hm⟩]
      exact hb
    · by_cases z : b = a
      · rw [z, upd_same] at hb; cases hb
      · rw [upd_ne z] at hb; exact hb
theorem OwnL.other {a : Addr} {o : HO} {vs : List V} {ms : List M} {fpl : List Addr} (h : OwnL K F H vs ms fpl) (n : a ∉ fpl) : OwnL K F (upd H a o) vs ms fpl :=
  h.mono (Sub.refl F) fun b hb u hu => by rw [upd_ne fun z => n (by rw [← z]; exact hb)]; exact hu
theorem OwnL.snoc {v : V} {d : D} (r : Rp K F v d) : ∀ {vs : List V} {ms : List M} {fpl : List Addr}, OwnL K F H vs ms fpl → OwnL K F H (vs ++ [v]) (ms ++ [.im d]) fpl
  | _, _, _, .nil => OwnL.cons (fp := []) (fq := []) (.im r) .nil
  | _, _, _, .cons h t => .cons h (OwnL.snoc r t)
theorem OwnL.set {v : V} {d : D} (r : Rp K F v d) : ∀ {vs : List V} {ms : List M} {fpl : List Addr} {j : Nat} {d0 : D}, OwnL K F H vs ms fpl → ms[j]? = some (.im d0) → OwnL K F H (vs.set j v) (ms.set j (.im d)) fpl
  | _, _, _, _, _, .nil, h => by simp at h
  | _, _, _, 0, _, .cons h t, q => by
    simp at q
    subst q
    cases h
    exact OwnL.cons (fp := []) (.im r) t
  | _, _, _, j + 1, _, .cons h t, q => .cons h (OwnL.set r t (by simpa using q))
/-- what slot i owns, a list -/
theorem SS.lsAt {i : Nat} {ms : List M} (S : SS K bv e σ F H fp) (he : e[i]? = some (some (.ls ms))) : ∃ a vs fpl, σ[i]? = some (some (.ref a)) ∧ H a = some (.lst vs) ∧ fp i = a :: fpl ∧ OwnL K F H vs ms fpl ∧ a ∉ fpl := by
  obtain ⟨v, hv, o⟩ := S.own i _ he
  have nd := S.nd i
  generalize hl : fp i = l at o nd
  cases o with
  | ls h r => exact ⟨_, _, _, hv, h, rfl, r, (List.nodup_cons.mp nd).1⟩
theorem SS.dtAt {i : Nat} {kms : List (List Key × M)} (S : SS K bv e σ F H fp) (he : e[i]? = some (some (.dt kms))) : ∃ a kvs fpl, σ[i]? = some (some (.ref a)) ∧ H a = some (.dT kvs) ∧ fp i = a :: fpl ∧ kvs.map (·.1) = kms.map (·.1) ∧ OwnL K F H (kvs.map (·.2)) (kms.map (·.2)) fpl ∧ a ∉ fpl := by
  obtain ⟨v, hv, o⟩ := S.own i _ he
  have nd := S.nd i
  generalize hl : fp i = l at o nd
  cases o with
  | dt h k r => exact ⟨_, _, _, hv, h, rfl, k, r, (List.nodup_cons.mp nd).1⟩
theorem SS.dkAt {i : Nat} {kms : List (Key × M)} (S : SS K bv e σ F H fp) (he : e[i]? = some (some (.dk kms))) : ∃ a kvs fpl, σ[i]? = some (some (.ref a)) ∧ H a = some (.dK kvs) ∧ fp i = a :: fpl ∧ kvs.map (·.1) = kms.map (·.1) ∧ OwnL K F H (kvs.map (·.2)) (kms.map (·.2)) fpl ∧ a ∉ fpl := by
  obtain ⟨v, hv, o⟩ := S.own i _ he
  have nd := S.nd i
  generalize hl : fp i = l at o nd
  cases o with
  | dk h k r => exact ⟨_, _, _, hv, h, rfl, k, r, (List.nodup_cons.mp nd).1⟩
end

/-! ### new things to own -/
def lstM (fs : EM (List D)) : EM M := bnd fs fun ds => if few ds.length then ret (.ls (ds.map .im)) else fun _ => .no
def dtM : EM M := ret (.dt [])
def dkM : EM M := ret (.dk [])
def catM (fa fb : EM D) : EM M := bnd fa fun x => bnd fb fun y => match x, y with
  | .list xs, .list ys => if few (xs.length + ys.length) then ret (.ls ((xs ++ ys).map .im)) else fun _ => .no
  | _, _ => fun _ => .no
section
variable {X : Cx} {W : WX} {bv : Nat → Option V} {pos : Pos} {a b : Expr} {es : List Expr} {fa fb : EM D} {fs : EM (List D)} {ta : EM Bool}
theorem dm_lst (h : DA X W bv es fs) : DM X W bv (.List es pos) (lstM fs) :=
  pe_imp (pe_lst h) fun σ H Q t => by
    refine tG.mono (tG.bnd (r := rL X.K) t) fun xs H1 ⟨ds, e1, F1, fp1, S1, r1, q1⟩ => ?_
    by_cases hz : few ds.length = true
    · rw [if_pos hz] at q1
      refine ⟨by rw [RpL.length r1]; exact few_le hz, fun p hp => ?_⟩
      exact AtG.mkM S1 q1 hp (Own.ls (fp := []) upd_same (OwnL.ims r1))
    · rw [if_neg hz] at q1
      exact q1.elim
theorem dm_dt : DM X W bv (.Dict [] [] pos) dtM := pe_imp pe_dnewT fun σ H Q ⟨e, F, fp, S, q⟩ p hp => AtG.mkM S q hp (Own.dt (fp := []) upd_same rfl .nil)
theorem dm_dk : DM X W bv (.Dict [] [] pos) dkM := pe_imp pe_dnewK fun σ H Q ⟨e, F, fp, S, q⟩ p hp => AtG.mkM S q hp (Own.dk (fp := []) upd_same rfl .nil)
theorem dm_cat (ha : DE X W bv a fa) (hb : DE X W bv b fb) : DM X W bv (.BinOp a .Add b pos) (catM fa fb) :=
  pe_imp (pe_op op_catL ha hb) fun σ H Q t => by
    refine tG.mono (tG.bnd (r := rD X.K) t) fun x H1 ⟨d1, e1, F1, fp1, S1, r1, q1⟩ => ?_
    refine tG.mono (AtG.bnd' (r := rD X.K) S1 q1) fun y H2 ⟨d2, e2, F2, fp2, s2, S2, r2, q2⟩ => ?_
    have r1' := Rp.mono s2 r1
    cases r1' with
    | lst h1 g1 =>
      cases r2 with
      | lst h2 g2 =>
        dsimp only at q2
        split at q2
        · rename_i z
          refine ⟨_, _, _, _, rfl, rfl, S2.sub.l h1, S2.sub.l h2, by rw [g1.length, g2.length]; exact few_le z, fun p hp => ?_⟩
          exact AtG.mkM S2 q2 hp (Own.ls (fp := []) upd_same (OwnL.ims (g1.append g2)))
        · exact q2.elim
      | _ => exact q2.elim
    | _ => exact q2.elim
/-- data, as a thing to own: flat or not, nobody changes it -/
def imM (f : EM D) : EM M := bnd f fun d => ret (.im d)
theorem dm_d (h : DE X W bv a fa) : DM X W bv a (imM fa) :=
  pe_imp h fun σ H Q t => by
    obtain ⟨e, F, fp, S, q⟩ := t
    refine tG.mono (⟨e, F, fp, S, ?_⟩ : tE X.K W bv fa σ H fun x H1 => ∃ d e1 F1 fp1, SS X.K bv e1 σ F1 H1 fp1 ∧ Rp X.K F1 x d ∧ AtG X.K W bv (rM X.K) (ret (.im d)) e1 σ F1 H1 fp1 Q) fun x H1 ⟨d, e1, F1, fp1, S1, r1, q1⟩ => q1 x F1 H1 fp1 (Pf fp1) (Stp.refl _ _ _) S1 (rM_im r1)
    unfold AtG imM bnd at q
    unfold AtG
    cases z : fa e with
    | no => rw [z] at q; exact q
    | ex _ _ _ => rw [z] at q; exact q
    | ok d e1 =>
      rw [z] at q
      intro x F1 H1 fp1 P1 s1 S1 r1
      obtain ⟨rfl, r1⟩ := r1
      exact ⟨d, e1, F1, fp1, S1, r1, fun x' F' H' fp' P' s' S' r' => q x' F' H' fp' P' (s1.trans s') S' r'⟩
end
end FD

/-! FD: what is owned, read and changed in place. -/
namespace FD
open PySem L2
/-- slot i holds something -/
def has (i : Nat) (e : Env) : Bool := match e[i]? with
  | some (some _) => true
  | _ => false
def chk {α : Type} (i : Nat) (f : EM α) : EM α := fun e => if has i e then f e else .no
/-- what slot i holds, as data, left as it is -/
def peekD (i : Nat) (e : Env) : Option D := match e[i]? with
  | some (some m) => m.toD
  | _ => none
/-- an operation whose answer has no address -/
def OpP (K : PySem.W.Frag) (r : R2) (g : D → D → Option D) : Prop := ∀ (F H : Hp) (x y : V) (d1 d2 d : D) (Q : VK), Sub F H → Rp K F x d1 → Rp K F y d2 → g d1 d2 = some d → flatD d = true ∧ (Q (flatOf d) H → r x y H Q)
section
variable {K : PySem.W.Frag} {W : WX} {bv : Nat → Option V} {e : Env} {σ : L2.St} {F H : Hp} {fp : Nat → List Addr} {α τ : Type}
theorem chk_tG {i : Nat} {R : RG τ α} {f : EM α} {Q : τ → Hp → Prop} (t : tG K W bv R (chk i f) σ H Q) : ∃ v, σ[i]? = some (some v) ∧ tG K W bv R f σ H Q := by
  obtain ⟨e, F, fp, S, q⟩ := t
  unfold AtG chk has at q
  cases h : e[i]? with
  | none => rw [h] at q; exact q.elim
  | some o =>
    cases o with
    | none => rw [h] at q; exact q.elim
    | some m =>
      rw [h] at q
      obtain ⟨v, hv, _⟩ := S.own i m h
      exact ⟨v, hv, e, F, fp, S, q⟩
theorem chk_S {i : Nat} {f : EM Flow} {D : Ends} (t : tS K W bv (chk i f) D σ H) : ∃ v, σ[i]? = some (some v) ∧ tS K W bv f D σ H := by
  obtain ⟨e, F, fp, S, q⟩ := t
  unfold AtS chk has at q
  cases h : e[i]? with
  | none => rw [h] at q; exact q.elim
  | some o =>
    cases o with
    | none => rw [h] at q; exact q.elim
    | some m =>
      rw [h] at q
      obtain ⟨v, hv, _⟩ := S.own i m h
      exact ⟨v, hv, e, F, fp, S, q⟩
/-- the peeked data, known in a heap between F and H -/
theorem SS.peek {i : Nat} {d : D} (S : SS K bv e σ F H fp) (h : peekD i e = some d) : ∃ v, σ[i]? = some (some v) ∧ Rp K (ov H F (fp i)) v d ∧ Sub F (ov H F (fp i)) ∧ Sub (ov H F (fp i)) H := by
  unfold peekD at h
  cases he : e[i]? with
  | none => rw [he] at h; cases h
  | some o =>
    cases o with
    | none => rw [he] at h; cases h
    | some m =>
      rw [he] at h
      obtain ⟨v, hv, o⟩ := S.own i m he
      exact ⟨v, hv, o.frozen (fun a z => S.fr i a z) h, Sub.ov fun a z => S.fr i a z, S.sub.of_ov⟩
end
section
variable {X : Cx} {W : WX} {bv : Nat → Option V} {pos p px : Pos} {a b : Expr} {es : List Expr} {fa fb fc : EM D} {fs : EM (List D)} {x : Str}
/-- a function of what slot i holds, which is left as it is -/
def pk {α : Type} (i : Nat) (g : D → Option α) : EM α := fun e => match peekD i e with
  | some d => lif (g d) e
  | none => .no
theorem AtG.pk {K : PySem.W.Frag} {e : Env} {σ : L2.St} {F H : Hp} {fp : Nat → List Addr} {α τ : Type} {R : RG τ α} {i : Nat} {g : D → Option α} {Q : τ → Hp → Prop} (h : AtG K W bv R (FD.pk i g) e σ F H fp Q) : ∃ d z, peekD i e = some d ∧ g d = some z ∧ AtG K W bv R (FD.ret z) e σ F H fp Q := by
  unfold AtG FD.pk at h
  cases hp : peekD i e with
  | none => rw [hp] at h; exact h.elim
  | some d =>
    rw [hp] at h
    cases hg : g d with
    | none => dsimp only at h; rw [hg] at h; exact h.elim
    | some z => dsimp only at h; rw [hg] at h; exact ⟨d, z, rfl, hg, h⟩
/-- xs op e, e op xs; the slot is left as it is -/
def pkL (i : Nat) (g : D → D → Option D) (fb : EM D) : EM D := chk i (bnd fb fun y => pk i fun d => g d y)
def pkR (i : Nat) (g : D → D → Option D) (fa : EM D) : EM D := bnd fa fun y => chk i (pk i fun d => g y d)
theorem pkL_of {K : PySem.W.Frag} {σ : L2.St} {H : Hp} {i : Nat} {r : R2} {g : D → D → Option D} {Q : VK} (h : OpP K r g) (t : tE K W bv (pkL i g fb) σ H Q) : tOp r (tVar i) (tE K W bv fb) σ H Q := by
  obtain ⟨v, hv, e, F, fp, S, q⟩ := chk_tG t
  refine ⟨v, hv, tG.mono (AtG.bnd' (r := rD K) S q) fun y H2 ⟨d2, e2, F2, fp2, s2, S2, r2, q2⟩ => ?_⟩
  obtain ⟨d, z, hp, hg, q3⟩ := q2.pk
  obtain ⟨w, hw, rw', s3, s4⟩ := S2.peek hp
  rw [hv] at hw
  cases hw
  obtain ⟨fl, k⟩ := h _ H2 v y d d2 z Q s4 rw' (Rp.mono s3 r2) hg
  exact k (AtG.here (r := rD K) S2 q3 (Rp.flat fl))
theorem pkR_of {K : PySem.W.Frag} {σ : L2.St} {H : Hp} {i : Nat} {r : R2} {g : D → D → Option D} {Q : VK} (h : OpP K r g) (t : tE K W bv (pkR i g fa) σ H Q) : tOp r (tE K W bv fa) (tVar i) σ H Q := by
  refine tG.mono (tG.bnd (r := rD K) t) fun y H2 ⟨d2, e2, F2, fp2, S2, r2, q2⟩ => ?_
  obtain ⟨v, hv, e3, F3, fp3, S3, q3⟩ := chk_tG (⟨e2, F2, fp2, S2, q2⟩ : tE K W bv _ σ H2 Q)
  refine ⟨v, hv, ?_⟩
  have q4 : AtG K W bv (smp (rD K)) (pk i fun d => g d2 d) e2 σ F2 H2 fp2 Q := by
    unfold AtG chk at q2
    unfold AtG
    cases hh : has i e2 with
    | true => rw [hh] at q2; exact q2
    | false => rw [hh] at q2; exact q2.elim
  obtain ⟨d, z, hp, hg, q5⟩ := q4.pk
  obtain ⟨w, hw, rw', s3, s4⟩ := S2.peek hp
  rw [hv] at hw
  cases hw
  obtain ⟨fl, k⟩ := h _ H2 y v d2 d z Q s4 (Rp.mono s3 r2) rw' hg
  exact k (AtG.here (r := rD K) S2 q5 (Rp.flat fl))
theorem op_eqP : OpP X.K (fun x y H Q => rEq x y H Q ∨ rEqD X.K x y H Q) eqD := by
  intro F H x y d1 d2 d Q s r1 r2 hg
  unfold eqD eqOk at hg
  split at hg
  · rename_i hz
    cases hg
    refine ⟨rfl, fun q => ?_⟩
    by_cases h1 : scalD d1 d2 = true
    · have z := scal_eqv h1
      simp only [scalD, Bool.and_eq_true] at h1
      refine .inl ?_
      rw [r1.flat_eq h1.1.1, r2.flat_eq h1.1.2]
      refine ⟨h1.2, ?_⟩
      rw [z]
      exact q
    · rw [Bool.not_eq_true] at h1
      rw [h1, Bool.false_or, Bool.and_eq_true] at hz
      exact .inr ⟨d1, d2, r1.dp s (lay_of hz.1), r2.dp s (lay_of hz.2), hz.1, hz.2, q⟩
  · cases hg
theorem op_neP : OpP X.K (fun x y H Q => rNe x y H Q ∨ rNeD X.K x y H Q) neD := by
  intro F H x y d1 d2 d Q s r1 r2 hg
  unfold neD eqOk at hg
  split at hg
  · rename_i hz
    cases hg
    refine ⟨rfl, fun q => ?_⟩
    by_cases h1 : scalD d1 d2 = true
    · have z := scal_eqv h1
      simp only [scalD, Bool.and_eq_true] at h1
      refine .inl ?_
      rw [r1.flat_eq h1.1.1, r2.flat_eq h1.1.2]
      refine ⟨h1.2, ?_⟩
      rw [z]
      exact q
    · rw [Bool.not_eq_true] at h1
      rw [h1, Bool.false_or, Bool.and_eq_true] at hz
      exact .inr ⟨d1, d2, r1.dp s (lay_of hz.1), r2.dp s (lay_of hz.2), hz.1, hz.2, q⟩
  · cases hg
theorem de_eqP (i : Nat) {k : Nat} (hr : Room k X.A) (hb : DE X W bv b fb) (hN : X.N[i]? = some x := by rfl) (hv : Vis X.env.scope x := by first | exact Or.inl rfl | exact Or.inr (Or.inl rfl) | exact Or.inr (Or.inr rfl)) (hd : (x == ("__debug__" : Str)) = false := by decide) (hcd : (x == ("__classdict__" : Str)) = false := by decide) :
    DE X W bv (.Compare (.Name x px) [.Eq] [b] pos) (pkL i eqD fb) :=
  pe_imp (pe_cmpR (OpR.or op_eq (op_eqD hr.units)) (pe_var hN hv hd hcd) hb (by first | exact nomark _ | rfl)) fun σ H Q t => pkL_of op_eqP t
theorem de_neP (i : Nat) {k : Nat} (hr : Room k X.A) (hb : DE X W bv b fb) (hN : X.N[i]? = some x := by rfl) (hv : Vis X.env.scope x := by first | exact Or.inl rfl | exact Or.inr (Or.inl rfl) | exact Or.inr (Or.inr rfl)) (hd : (x == ("__debug__" : Str)) = false := by decide) (hcd : (x == ("__classdict__" : Str)) = false := by decide) :
    DE X W bv (.Compare (.Name x px) [.NotEq] [b] pos) (pkL i neD fb) :=
  pe_imp (pe_cmpR (OpR.or op_ne (op_neD hr.units)) (pe_var hN hv hd hcd) hb (by first | exact nomark _ | rfl)) fun σ H Q t => pkL_of op_neP t
/-! ### len(xs), xs[k] -/
def pkLen (i : Nat) : EM D := chk i (pk i fun d => lenD [d])
theorem de_lenP (i : Nat) (hm : X.mg "len" = none) (hN : X.N[i]? = some x := by rfl) (hv : Vis X.env.scope x := by first | exact Or.inl rfl | exact Or.inr (Or.inl rfl) | exact Or.inr (Or.inr rfl)) (hd : (x == ("__debug__" : Str)) = false := by decide) (hcd : (x == ("__classdict__" : Str)) = false := by decide)
    (hg : Gl X "len" := by rfl) (he : starEach [.Name x px] X.env = (false, eval (.Name x px) X.env) :: starEach [] X.env := by rfl) :
    DE X W bv (.Call (.Name "len" p) [.Name x px] [] pos) (pkLen i) :=
  pe_imp (pe_callB (CallR.or call_len_seq (CallR.or call_len_str call_lenR)) hg hm (by rfl) (pa_cons (pe_var hN hv hd hcd) pa_nil he) (by decide) (by decide) he rfl) fun σ H Q t => by
    obtain ⟨v, hv, e, F, fp, S, q⟩ := chk_tG t
    refine ⟨v, hv, ?_⟩
    obtain ⟨d, z, hp, hg, q3⟩ := q.pk
    obtain ⟨w, hw, rw', s3, s4⟩ := S.peek hp
    rw [hv] at hw
    cases hw
    have fin : ∀ n : Int, z = .int n → Q (.int n) H := fun n h => by subst h; exact AtG.here (r := rD X.K) S q3 (.int n)
    cases rw' with
    | lst h rl =>
      refine .inl ⟨_, _, rfl, .inl (s4.l h), ?_⟩
      rw [rl.length]
      exact fin _ (Option.some.inj hg).symm
    | tup h rl =>
      refine .inl ⟨_, _, rfl, .inr (s4.t h), ?_⟩
      rw [rl.length]
      exact fin _ (Option.some.inj hg).symm
    | str z' =>
      simp only [lenD] at hg
      split at hg
      · rename_i hz
        exact .inr (.inl ⟨z', rfl, few_le hz, fin _ (Option.some.inj hg).symm⟩)
      · cases hg
    | dK h k rl =>
      rename_i kvs kds
      refine .inr (.inr ⟨_, rfl, .inl ⟨_, s4.rd _ _ h, fin _ ?_⟩⟩)
      have : kvs.length = kds.length := by simpa using congrArg List.length k
      rw [this, ← List.length_map (as := kds) (f := fun p => (keyD p.1, p.2))]
      exact (Option.some.inj hg).symm
    | dT h k rl =>
      rename_i kvs kds
      refine .inr (.inr ⟨_, rfl, .inr ⟨_, s4.rd _ _ h, fin _ ?_⟩⟩)
      have : kvs.length = kds.length := by simpa using congrArg List.length k
      rw [this, ← List.length_map (as := kds) (f := fun p => (PyData.tuple (p.1.map keyD), p.2))]
      exact (Option.some.inj hg).symm
    | _ => cases hg
/-- an owned list's item that is data -/
def itemM (i : Nat) (k : Int) (e : Env) : Option D := match e[i]? with
  | some (some (.ls ms)) => match atI ms k with
    | some (.im d) => some d
    | _ => none
  | _ => none
def pkIx (i : Nat) (fb : EM D) : EM D := chk i (bnd fb fun k => match k with
  | .int k => fun e => lif (itemM i k e) e
  | _ => fun _ => .no)
theorem OwnL.get {K : PySem.W.Frag} {F H : Hp} : ∀ {vs : List V} {ms : List M} {fpl : List Addr} {j : Nat} {m : M}, OwnL K F H vs ms fpl → ms[j]? = some m → ∃ v l, vs[j]? = some v ∧ Own K F H v m l ∧ ∀ b ∈ l, b ∈ fpl
  | _, _, _, _, _, .nil, h => by simp at h
  | _, _, _, 0, _, .cons h t, q => by
    simp at q
    subst q
    exact ⟨_, _, rfl, h, fun b hb => List.mem_append_left _ hb⟩
  | _, _, _, j + 1, _, .cons h t, q => by
    obtain ⟨v, l, h1, h2, h3⟩ := OwnL.get (j := j) t (by simpa using q)
    exact ⟨v, l, by simpa using h1, h2, fun b hb => List.mem_append_right _ (h3 b hb)⟩
theorem item_at {K : PySem.W.Frag} {e : Env} {σ : L2.St} {F H : Hp} {fp : Nat → List Addr} {i : Nat} {k : Int} {d : D} (S : SS K bv e σ F H fp) (h : itemM i k e = some d) : ∃ a vs v, σ[i]? = some (some (.ref a)) ∧ H a = some (.lst vs) ∧ atI vs k = some v ∧ Rp K F v d := by
  unfold itemM at h
  split at h
  · rename_i ms he
    split at h
    · rename_i d' hk
      cases h
      obtain ⟨a, vs, fpl, h1, h2, h3, h4, h5⟩ := S.lsAt he
      unfold atI at hk
      cases hj : ixN ms.length k with
      | none => rw [hj] at hk; cases hk
      | some j =>
        rw [hj] at hk
        obtain ⟨v, l, g1, g2, _⟩ := h4.get (j := j) hk
        refine ⟨a, vs, v, h1, h2, ?_, by cases g2; assumption⟩
        unfold atI
        rw [h4.length, hj]
        exact g1
    · cases h
  · cases h
theorem de_ixP (i : Nat) (hb : DE X W bv b fb) (hN : X.N[i]? = some x := by rfl) (hv : Vis X.env.scope x := by first | exact Or.inl rfl | exact Or.inr (Or.inl rfl) | exact Or.inr (Or.inr rfl)) (hd : (x == ("__debug__" : Str)) = false := by decide) (hcd : (x == ("__classdict__" : Str)) = false := by decide)
    (hs : PlainIx b := by exact fun _ _ => rfl) : DE X W bv (.Subscript (.Name x px) b pos) (pkIx i fb) :=
  pe_imp (pe_ix ix_seq (pe_var hN hv hd hcd) hb hs) fun σ H Q t => by
    obtain ⟨v, hv, e, F, fp, S, q⟩ := chk_tG t
    refine ⟨v, hv, tG.mono (AtG.bnd' (r := rD X.K) S q) fun y H2 ⟨d2, e2, F2, fp2, s2, S2, r2, q2⟩ => ?_⟩
    cases r2 with
    | int k =>
      dsimp only at q2
      obtain ⟨d, hd', q3⟩ : ∃ d, itemM i k e2 = some d ∧ AtG X.K W bv (smp (rD X.K)) (ret d) e2 σ F2 H2 fp2 Q := by
        unfold AtG at q2
        dsimp only at q2
        cases hh : itemM i k e2 with
        | none => rw [hh] at q2; exact q2.elim
        | some d => rw [hh] at q2; exact ⟨d, rfl, q2⟩
      obtain ⟨a, vs, w, h1, h2, h3, h4⟩ := item_at S2 hd'
      rw [hv] at h1
      cases h1
      exact .inl ⟨_, _, _, _, rfl, rfl, SqL.of h2, h3, AtG.here (r := rD X.K) S2 q3 h4⟩
    | _ => exact q2.elim
end
end FD

/-! FD: in on what is owned; append, item stores, dicts. -/
namespace FD
open PySem L2
section
variable {X : Cx} {W : WX} {bv : Nat → Option V} {pos p px apos : Pos} {a b c : Expr} {es : List Expr} {fa fb fc : EM D} {fs : EM (List D)} {x : Str}
/-! ### x in xs, an owned list -/
def inLD (d1 d2 : D) : Option D := match d2 with
  | .list ds => if inOk d1 ds then some (.bool (memD d1 ds)) else none
  | _ => none
def ninLD (d1 d2 : D) : Option D := match d2 with
  | .list ds => if inOk d1 ds then some (.bool (!memD d1 ds)) else none
  | _ => none
def rInL (K : PySem.W.Frag) (neg : Bool) : R2 := fun x y H Q => (∃ (p : Addr) (ys : List V), y = .ref p ∧ (SqL K H p ys ∨ SqT K H p ys) ∧ flatV x = true ∧ ys.all flatV = true ∧ Q (.bl (if neg then !inV x ys else inV x ys)) H) ∨
  ∃ (d : D) (ds : List D), Dp K H x d ∧ Dp K H y (.list ds) ∧ SeqAt.shaped d = true ∧ SeqAt.shaped (.list ds) = true ∧ Q (.bl (if neg then !(ds.any fun z => PyData.eqv z d) else ds.any fun z => PyData.eqv z d)) H
theorem or_in {k : Nat} (hr : Room k X.A) : OpR X (compareOp .In) (rInL X.K false) := by
  have hu : X.A.units + 65 < cLine := by have := hr.un; omega
  intro pins s σ H x y v u Q I rx ry h
  rcases h with ⟨p, ys, e1, e2, e3, e4, q⟩ | ⟨d, ds, e1, e2, e3, e4, q⟩
  · exact op_in_seq pins s σ H x y v u Q I rx ry ⟨p, ys, e1, e2, e3, e4, q⟩
  · exact op_inD hu pins s σ H x y v u Q I rx ry ⟨d, ds, e1, e2, e3, e4, q⟩
theorem or_nin {k : Nat} (hr : Room k X.A) : OpR X (compareOp .NotIn) (rInL X.K true) := by
  have hu : X.A.units + 65 < cLine := by have := hr.un; omega
  intro pins s σ H x y v u Q I rx ry h
  rcases h with ⟨p, ys, e1, e2, e3, e4, q⟩ | ⟨d, ds, e1, e2, e3, e4, q⟩
  · exact op_notIn_seq pins s σ H x y v u Q I rx ry ⟨p, ys, e1, e2, e3, e4, q⟩
  · exact op_notInD hu pins s σ H x y v u Q I rx ry ⟨d, ds, e1, e2, e3, e4, q⟩
theorem inL_p {K : PySem.W.Frag} {neg : Bool} {g : D → D → Option D} (hg : ∀ d1 d2 d, g d1 d2 = some d → ∃ ds, d2 = .list ds ∧ inOk d1 ds = true ∧ d = .bool (if neg then !memD d1 ds else memD d1 ds)) : OpP K (rInL K neg) g := by
  intro F H x y d1 d2 d Q s r1 r2 h
  obtain ⟨ds, rfl, hz, rfl⟩ := hg _ _ _ h
  refine ⟨rfl, fun q => ?_⟩
  have r2' := r2
  cases r2 with
  | lst h r =>
    rename_i p vs
    unfold inOk at hz
    by_cases z1 : (flatD d1 && flatAll ds) = true
    · rw [Bool.and_eq_true] at z1
      rw [r1.flat_eq z1.1]
      have e1 := r.flat_eq z1.2
      subst e1
      refine .inl ⟨p, _, rfl, .inl (s.l h), flat_flatV z1.1, all_flatV z1.2, ?_⟩
      rw [flat_inV z1.1 z1.2]
      exact q
    · rw [Bool.not_eq_true] at z1
      rw [z1, Bool.false_or, Bool.and_eq_true] at hz
      exact .inr ⟨d1, ds, r1.dp s (lay_of hz.1), r2'.dp s (lay_of hz.2), hz.1, hz.2, q⟩
theorem inL_P {K : PySem.W.Frag} : OpP K (rInL K false) inLD := inL_p fun d1 d2 d h => by
  unfold inLD at h
  split at h
  · split at h
    · rename_i hz; cases h; exact ⟨_, rfl, hz, rfl⟩
    · cases h
  · cases h
theorem ninL_P {K : PySem.W.Frag} : OpP K (rInL K true) ninLD := inL_p fun d1 d2 d h => by
  unfold ninLD at h
  split at h
  · split at h
    · rename_i hz; cases h; exact ⟨_, rfl, hz, rfl⟩
    · cases h
  · cases h
theorem de_inP (i : Nat) {k : Nat} (hr : Room k X.A) (ha : DE X W bv a fa) (hN : X.N[i]? = some x := by rfl) (hv : Vis X.env.scope x := by first | exact Or.inl rfl | exact Or.inr (Or.inl rfl) | exact Or.inr (Or.inr rfl)) (hd : (x == ("__debug__" : Str)) = false := by decide) (hcd : (x == ("__classdict__" : Str)) = false := by decide)
    (hm : behindInMarks .In (.Name x px) = false := by first | exact nomark _ | rfl) : DE X W bv (.Compare a [.In] [.Name x px] pos) (pkR i inLD fa) :=
  pe_imp (pe_cmpR (or_in hr) ha (pe_var hN hv hd hcd) hm) fun σ H Q t => pkR_of inL_P t
theorem de_ninP (i : Nat) {k : Nat} (hr : Room k X.A) (ha : DE X W bv a fa) (hN : X.N[i]? = some x := by rfl) (hv : Vis X.env.scope x := by first | exact Or.inl rfl | exact Or.inr (Or.inl rfl) | exact Or.inr (Or.inr rfl)) (hd : (x == ("__debug__" : Str)) = false := by decide) (hcd : (x == ("__classdict__" : Str)) = false := by decide)
    (hm : behindInMarks .NotIn (.Name x px) = false := by first | exact nomark _ | rfl) : DE X W bv (.Compare a [.NotIn] [.Name x px] pos) (pkR i ninLD fa) :=
  pe_imp (pe_cmpR (or_nin hr) ha (pe_var hN hv hd hcd) hm) fun σ H Q t => pkR_of ninL_P t
/-! ### xs.append(e) -/
def isLs (i : Nat) (e : Env) : Bool := match e[i]? with
  | some (some (.ls _)) => true
  | _ => false
def appM (i : Nat) (d : D) : EM Flow := fun e => match e[i]? with
  | some (some (.ls ms)) => if few (ms.length + 1) then .ok .nxt (e.set i (some (.ls (ms ++ [.im d])))) else .no
  | _ => .no
def appS (i : Nat) (f : EM D) : EM Flow := fun e => if isLs i e then bnd f (fun d => appM i d) e else .no
theorem isLs_at {e : Env} {i : Nat} (h : isLs i e = true) : ∃ ms, e[i]? = some (some (.ls ms)) := by
  unfold isLs at h
  split at h
  · rename_i ms he; exact ⟨ms, he⟩
  · cases h
theorem ds_append (i : Nat) (h : DE X W bv a fa) (hN : X.N[i]? = some x := by rfl) (hv : Vis X.env.scope x := by first | exact Or.inl rfl | exact Or.inr (Or.inl rfl) | exact Or.inr (Or.inr rfl)) (hd : (x == ("__debug__" : Str)) = false := by decide) (hcd : (x == ("__classdict__" : Str)) = false := by decide)
    (hbase : attributeBase (.Name x px) "append" X.env (eval (.Name x px) X.env) = eval (.Name x px) X.env := by rfl)
    (hfew : ((backTo p (starEach [a] X.env)).all (fun x => !x.1) && (backToKw p (keywordEach [] X.env)).all (fun x => x.1.isSome) && decide (([a] : List Expr).length + ([] : List Keyword).length + (if ([] : List Keyword).isEmpty then 0 else 1) < 30)) = true := by rfl)
    (hline : (apos.endLine == p.line) = true := by rfl) (hs : starEach [a] X.env = (false, eval a X.env) :: starEach [] X.env := by rfl) (hpl : (backTo p (starEach [] X.env)).any (·.1) = false := by rfl)
    (hsw : swapsWith (.Call (.Attribute (.Name x px) "append" apos) [a] [] p) none pos.line X.env = pure false := by rfl) :
    DS X W bv (.Expr (.Call (.Attribute (.Name x px) "append" apos) [a] [] p) pos) (appS i fa) :=
  ps_imp (ps_expr (pe_bm PySem.F.plainAttrs_list PySem.F.slot_list_append PySem.F.type_list_append mt_append (pe_var hN hv hd hcd) (pa_cons h pa_nil hs) hbase hfew hline hs hpl) hsw) fun D σ H ⟨e, F, fp, S, q⟩ => by
    unfold AtS appS at q
    by_cases hl : isLs i e = true
    · rw [if_pos hl] at q
      obtain ⟨ms, he⟩ := isLs_at hl
      obtain ⟨a0, vs, fpl, h1, h2, _⟩ := S.lsAt he
      refine ⟨_, h1, .inl ⟨rfl, _, SqL.of h2⟩, ?_⟩
      refine tG.mono (AtS.bnd' (r := rD X.K) S q) fun v H1 ⟨d, e1, F1, fp1, _, _, S1, r1, q1⟩ => ?_
      unfold AtS appM at q1
      split at q1
      rotate_left
      exact q1.elim
      rename_i ms1 he1
      obtain ⟨a1, vs1, fpl1, g1, g2, g3, g4, g5⟩ := S1.lsAt he1
      rw [h1] at g1
      cases g1
      split at q1
      rotate_left
      exact q1.elim
      rename_i hz
      have hlen := g4.length
      have hz' := few_le hz
      refine ⟨_, _, _, rfl, rfl, g2, by omega, ?_⟩
      obtain ⟨S2, s2⟩ := S1.upH (m := .ls (ms1 ++ [.im d])) (List.getElem?_eq_some_iff.mp he1).1 h1 g3 (.ls upd_same ((g4.snoc r1).other g5))
      exact q1 σ F1 _ fp1 s2 S2
    · rw [if_neg hl] at q
      exact q.elim
/-! ### xs[k] = v -/
def setIxM (i : Nat) (k : D) (d : D) : EM Flow := fun e => match k, e[i]? with
  | .int k, some (some (.ls ms)) => match ixN ms.length k with
    | some j => match ms[j]? with
      | some (.im _) => .ok .nxt (e.set i (some (.ls (ms.set j (.im d)))))
      | _ => .no
    | none => .no
  | _, _ => .no
def setIxS (i : Nat) (fk fv : EM D) : EM Flow := bnd fv fun d => chk i (bnd fk fun k => setIxM i k d)
theorem ds_setIx (i : Nat) {tp : Pos} (hk : DE X W bv b fb) (hvl : DE X W bv a fa) (hN : X.N[i]? = some x := by rfl) (hv : Vis X.env.scope x := by first | exact Or.inl rfl | exact Or.inr (Or.inl rfl) | exact Or.inr (Or.inr rfl)) (hd : (x == ("__debug__" : Str)) = false := by decide) (hcd : (x == ("__classdict__" : Str)) = false := by decide)
    (ha : ∀ v, assign (.Subscript (.Name x px) b tp) X.env v = (do
      let ov ← holding [v] (eval (.Name x px) X.env)
      let iv ← holding [v, ov] (eval b X.env)
      standAt tp
      holding [v, ov, iv] (setItem ov iv v)
      release [v, ov, iv] []) := by intro _; rfl)
    (hs : swapsWithSole [.Subscript (.Name x px) b tp] a pos.line X.env = pure false := by rfl) (hw : swappedStores [.Subscript (.Name x px) b tp] a X.env = pure none := by rfl)
    (h1 : (assignEach [.Subscript (.Name x px) b tp] X.env).map (·.2) = [assign (.Subscript (.Name x px) b tp) X.env] := by rfl) :
    DS X W bv (.Assign [.Subscript (.Name x px) b tp] a pos) (setIxS i fb fa) :=
  ps_imp (ps_asg hvl (pg_sub (pe_var hN hv hd hcd) hk set_list ha) hs hw h1) fun D σ H ⟨e, F, fp, S, q⟩ => by
    refine tG.mono (AtS.bnd' (r := rD X.K) S q) fun v H1 ⟨d, e1, F1, fp1, _, _, S1, r1, q1⟩ => ?_
    obtain ⟨w, hw, _⟩ := chk_S (⟨e1, F1, fp1, S1, q1⟩ : tS X.K W bv _ D σ H1)
    refine ⟨w, hw, ?_⟩
    have q2 : AtS X.K W bv (bnd fb fun k => setIxM i k d) e1 σ F1 H1 fp1 D := by
      unfold AtS chk at q1
      cases hh : has i e1 with
      | true => rw [hh] at q1; exact q1
      | false => rw [hh] at q1; exact q1.elim
    refine tG.mono (AtS.bnd' (r := rD X.K) S1 q2) fun y H2 ⟨kd, e2, F2, fp2, s2, _, S2, r2, q3⟩ => ?_
    unfold AtS setIxM at q3
    split at q3
    rotate_left
    exact q3.elim
    rename_i k ms he
    cases r2
    split at q3
    rotate_left
    exact q3.elim
    rename_i j hj
    split at q3
    rotate_left
    exact q3.elim
    rename_i d0 hd0
    obtain ⟨a1, vs1, fpl1, g1, g2, g3, g4, g5⟩ := S2.lsAt he
    rw [hw] at g1
    cases g1
    refine ⟨a1, vs1, k, j, rfl, rfl, g2, by rw [g4.length]; exact hj, ?_⟩
    obtain ⟨S3, s3⟩ := S2.upH (m := .ls (ms.set j (.im d))) (List.getElem?_eq_some_iff.mp he).1 hw g3 (.ls upd_same ((g4.set (Rp.mono s2 r1) hd0).other g5))
    exact q3 σ F2 _ fp2 s3 S3
end
end FD

/-! FD: dicts. -/
namespace FD
open PySem L2
def kOf : D → Option Key
  | .int i => some (.inl i)
  | .str x => some (.inr x)
  | _ => none
def kAll : List D → Option (List Key)
  | [] => some []
  | d :: ds => (kOf d).bind fun k => (kAll ds).map (k :: ·)
def ksOf : D → Option (List Key)
  | .tuple ds => kAll ds
  | _ => none
theorem kOf_keyD (k : Key) : kOf (keyD k) = some k := by cases k <;> rfl
theorem kAll_keyD : ∀ ks : List Key, kAll (ks.map keyD) = some ks
  | [] => rfl
  | k :: ks => by
    show (kOf (keyD k)).bind (fun k => (kAll (ks.map keyD)).map (k :: ·)) = _
    rw [kOf_keyD, kAll_keyD ks]
    rfl
def dictK : List (D × D) → Option (List (Key × D))
  | [] => some []
  | p :: r => (kOf p.1).bind fun k => (dictK r).map ((k, p.2) :: ·)
def dictT : List (D × D) → Option (List (List Key × D))
  | [] => some []
  | p :: r => (ksOf p.1).bind fun k => (dictT r).map ((k, p.2) :: ·)
theorem dictK_of : ∀ kds : List (Key × D), dictK (kds.map fun p => (keyD p.1, p.2)) = some kds
  | [] => rfl
  | p :: r => by
    show (kOf (keyD p.1)).bind (fun k => (dictK (r.map fun p => (keyD p.1, p.2))).map ((k, p.2) :: ·)) = _
    rw [kOf_keyD, dictK_of r]
    rfl
theorem dictT_of : ∀ kds : List (List Key × D), dictT (kds.map fun p => (PyData.tuple (p.1.map keyD), p.2)) = some kds
  | [] => rfl
  | p :: r => by
    show (kAll (p.1.map keyD)).bind (fun k => (dictT (r.map fun p => (PyData.tuple (p.1.map keyD), p.2))).map ((k, p.2) :: ·)) = _
    rw [kAll_keyD, dictT_of r]
    rfl
theorem dictT_K : ∀ {kds : List (Key × D)} {l : List (List Key × D)}, dictT (kds.map fun p => (keyD p.1, p.2)) = some l → kds = [] ∧ l = []
  | [], _, h => by cases h; exact ⟨rfl, rfl⟩
  | p :: r, _, h => by
    obtain ⟨k, hk, _⟩ := Option.bind_eq_some_iff.mp h
    obtain ⟨q, _⟩ := p
    cases q <;> cases hk
theorem dictK_T : ∀ {kds : List (List Key × D)} {l : List (Key × D)}, dictK (kds.map fun p => (PyData.tuple (p.1.map keyD), p.2)) = some l → kds = [] ∧ l = []
  | [], _, h => by cases h; exact ⟨rfl, rfl⟩
  | p :: r, _, h => by
    obtain ⟨k, hk, _⟩ := Option.bind_eq_some_iff.mp h
    cases hk
section
variable {κ α β : Type} [DecidableEq κ]
def lookK (kvs : List (κ × α)) (k : κ) : Option α := (kvs.find? fun kv => decide (kv.1 = k)).map (·.2)
def putKK (kvs : List (κ × α)) (k : κ) (v : α) : List (κ × α) := if (kvs.any fun kv => decide (kv.1 = k)) = true then kvs.map (fun kv => if kv.1 = k then (kv.1, v) else kv) else kvs ++ [(k, v)]
theorem lookK_nil {k : κ} : lookK ([] : List (κ × α)) k = none := rfl
theorem lookK_pos {p : κ × α} {r : List (κ × α)} {k : κ} (e : p.1 = k) : lookK (p :: r) k = some p.2 := by simp [lookK, List.find?_cons, e]
theorem lookK_neg {p : κ × α} {r : List (κ × α)} {k : κ} (e : ¬ p.1 = k) : lookK (p :: r) k = lookK r k := by simp [lookK, List.find?_cons, e]
theorem keys_any {k : κ} : ∀ {as : List (κ × α)} {bs : List (κ × β)}, as.map (·.1) = bs.map (·.1) → (as.any fun kv => decide (kv.1 = k)) = (bs.any fun kv => decide (kv.1 = k))
  | [], [], _ => rfl
  | [], _ :: _, h => by cases h
  | _ :: _, [], h => by cases h
  | a :: as, b :: bs, h => by
    simp only [List.map_cons, List.cons.injEq] at h
    rw [List.any_cons, List.any_cons, h.1, keys_any h.2]
end
section
variable {κ : Type} [DecidableEq κ] {K : PySem.W.Frag} {F H : Hp} {k : κ}
theorem look_rp : ∀ {kvs : List (κ × V)} {kds : List (κ × D)}, kvs.map (·.1) = kds.map (·.1) → RpL K F (kvs.map (·.2)) (kds.map (·.2)) → (lookK kds k = none ∧ valV kvs k = none) ∨ ∃ v d, valV kvs k = some v ∧ lookK kds k = some d ∧ Rp K F v d
  | [], [], _, _ => .inl ⟨rfl, rfl⟩
  | [], _ :: _, h, _ => by cases h
  | _ :: _, [], h, _ => by cases h
  | a :: as, b :: bs, h, r => by
    simp only [List.map_cons, List.cons.injEq] at h
    cases r with
    | cons r1 r2 =>
      by_cases e : a.1 = k
      · exact .inr ⟨_, _, valV_pos e, lookK_pos (h.1 ▸ e), r1⟩
      · rw [valV_neg e, lookK_neg (h.1 ▸ e)]
        exact look_rp h.2 r2
theorem look_own : ∀ {kvs : List (κ × V)} {kms : List (κ × M)} {fpl : List Addr}, kvs.map (·.1) = kms.map (·.1) → OwnL K F H (kvs.map (·.2)) (kms.map (·.2)) fpl → (lookK kms k = none ∧ valV kvs k = none) ∨ ∃ v m l, valV kvs k = some v ∧ lookK kms k = some m ∧ Own K F H v m l ∧ ∀ b ∈ l, b ∈ fpl
  | [], [], _, _, _ => .inl ⟨rfl, rfl⟩
  | [], _ :: _, _, h, _ => by cases h
  | _ :: _, [], _, h, _ => by cases h
  | a :: as, b :: bs, _, h, r => by
    simp only [List.map_cons, List.cons.injEq] at h
    cases r with
    | cons r1 r2 =>
      by_cases e : a.1 = k
      · exact .inr ⟨_, _, _, valV_pos e, lookK_pos (h.1 ▸ e), r1, fun b hb => List.mem_append_left _ hb⟩
      · rw [valV_neg e, lookK_neg (h.1 ▸ e)]
        rcases look_own h.2 r2 with q | ⟨v, m, l, q1, q2, q3, q4⟩
        · exact .inl q
        · exact .inr ⟨v, m, l, q1, q2, q3, fun b hb => List.mem_append_right _ (q4 b hb)⟩
/-- what stands at k, if something does, is data -/
def imK (kms : List (κ × M)) (k : κ) : Bool := kms.all fun kv => !decide (kv.1 = k) || isIm kv.2
theorem put_own {v : V} {d : D} (r : Rp K F v d) : ∀ {kvs : List (κ × V)} {kms : List (κ × M)} {fpl : List Addr}, kvs.map (·.1) = kms.map (·.1) → OwnL K F H (kvs.map (·.2)) (kms.map (·.2)) fpl → imK kms k = true →
    (putK kvs k v).map (·.1) = (putKK kms k (.im d)).map (·.1) ∧ OwnL K F H ((putK kvs k v).map (·.2)) ((putKK kms k (.im d)).map (·.2)) fpl := by
  intro kvs kms fpl hk ho hi
  unfold putK putKK
  rw [keys_any hk]
  by_cases c : (kms.any fun kv => decide (kv.1 = k)) = true
  · rw [if_pos c, if_pos c]
    clear c
    constructor
    · have e1 : ∀ l : List (κ × V), (l.map fun kv => if kv.1 = k then (kv.1, v) else kv).map (·.1) = l.map (·.1) := fun l => by
        rw [List.map_map]
        exact List.map_congr_left fun a _ => by show (if a.1 = k then (a.1, v) else a).1 = a.1; split <;> rfl
      have e2 : ∀ l : List (κ × M), (l.map fun kv => if kv.1 = k then (kv.1, M.im d) else kv).map (·.1) = l.map (·.1) := fun l => by
        rw [List.map_map]
        exact List.map_congr_left fun a _ => by show (if a.1 = k then (a.1, M.im d) else a).1 = a.1; split <;> rfl
      rw [e1, e2, hk]
    · induction kvs generalizing kms fpl with
      | nil =>
        cases kms with
        | nil => exact ho
        | cons _ _ => cases hk
      | cons a as ih =>
        cases kms with
        | nil => cases hk
        | cons b bs =>
          obtain ⟨ak, av⟩ := a
          obtain ⟨bk, bm⟩ := b
          simp only [List.map_cons, List.cons.injEq] at hk
          simp only [imK, List.all_cons, Bool.and_eq_true] at hi
          cases ho with
          | cons o1 o2 =>
            have ih' := ih hk.2 o2 hi.2
            simp only [List.map_cons]
            by_cases e : ak = k
            · have e' : bk = k := hk.1 ▸ e
              rw [if_pos e, if_pos e']
              have : isIm bm = true := by simpa [e'] using hi.1
              cases bm with
              | im d0 =>
                cases o1
                exact OwnL.cons (fp := []) (.im r) ih'
              | _ => cases this
            · have e' : ¬ bk = k := hk.1 ▸ e
              rw [if_neg e, if_neg e']
              exact OwnL.cons o1 ih'
  · rw [if_neg c, if_neg c]
    simp only [List.map_append, List.map_cons, List.map_nil]
    exact ⟨by rw [hk], ho.snoc r⟩
end

/-! ### keys in the heap -/
theorem Rp.key {K : PySem.W.Frag} {F : Hp} {v : V} {d : D} {k : Key} (r : Rp K F v d) (h : kOf d = some k) : v = kV k := by
  cases r <;> cases h <;> rfl
theorem RpL.keys {K : PySem.W.Frag} {F : Hp} : ∀ {vs : List V} {ds : List D} {ks : List Key}, RpL K F vs ds → kAll ds = some ks → vs = ks.map kV
  | _, _, _, .nil, h => by cases h; rfl
  | _, _, _, .cons r1 r, h => by
    obtain ⟨k, hk, h2⟩ := Option.bind_eq_some_iff.mp h
    obtain ⟨ks, h3, rfl⟩ := Option.map_eq_some_iff.mp h2
    rw [List.map_cons, r1.key hk, r.keys h3]
theorem Rp.keyT {K : PySem.W.Frag} {F : Hp} {v : V} {d : D} {ks : List Key} (r : Rp K F v d) (h : ksOf d = some ks) : ∃ b, v = .ref b ∧ F b = some (.tup (ks.map kV)) := by
  cases r with
  | tup hb rl => exact ⟨_, rfl, by rw [← rl.keys h]; exact hb⟩
  | _ => cases h
/-- what a dict holds at y, told of the empty one too -/
def DGetX (H : Hp) (a : Addr) (y : V) (r : Option V) : Prop := DGet H a y r ∨ (r = none ∧ Rd H a (.dK []) ∧ ∃ (b : Addr) (k : List Key), y = .ref b ∧ H b = some (.tup (k.map kV))) ∨ (r = none ∧ Rd H a (.dT []) ∧ ∃ k, y = kV k)
/-- d's item at y -/
def getDD (kvs : List (D × D)) (y : D) : Option (Option D) := match kOf y with
  | some k => (dictK kvs).map fun l => lookK l k
  | none => match ksOf y with
    | some k => (dictT kvs).map fun l => lookK l k
    | none => none
theorem get_rp {K : PySem.W.Frag} {F H : Hp} (s : Sub F H) {v y : V} {kvs : List (D × D)} {yd : D} {o : Option D} (r : Rp K F v (.dict kvs)) (ry : Rp K F y yd) (h : getDD kvs yd = some o) : ∃ a ov, v = .ref a ∧ DGetX H a y ov ∧ ((o = none ∧ ov = none) ∨ ∃ d w, o = some d ∧ ov = some w ∧ Rp K F w d) := by
  unfold getDD at h
  generalize hd : PyData.dict kvs = dd at r
  cases r with
  | dK hr hk rl =>
    rename_i a kv kds
    cases hd
    split at h
    · rename_i k hky
      rw [dictK_of] at h
      cases h
      have ey := ry.key hky
      subst ey
      refine ⟨a, _, rfl, Or.inl (Or.inl ⟨kv, k, s.rd _ _ hr, rfl, rfl⟩), ?_⟩
      rcases look_rp (k := k) hk rl with ⟨e1, e2⟩ | ⟨w, d, e1, e2, e3⟩
      · exact .inl ⟨e1, e2⟩
      · exact .inr ⟨d, w, e2, e1, e3⟩
    · split at h
      · rename_i k hky
        obtain ⟨l, hl, rfl⟩ := Option.map_eq_some_iff.mp h
        obtain ⟨e1, e2⟩ := dictT_K hl
        subst e1 e2
        have e3 : kv = [] := by simpa using hk
        subst e3
        obtain ⟨b, rfl, hb⟩ := ry.keyT hky
        exact ⟨a, none, rfl, Or.inr (Or.inl ⟨rfl, s.rd _ _ hr, b, k, rfl, s.tp _ _ hb⟩), .inl ⟨rfl, rfl⟩⟩
      · cases h
  | dT hr hk rl =>
    rename_i a kv kds
    cases hd
    split at h
    · rename_i k hky
      obtain ⟨l, hl, rfl⟩ := Option.map_eq_some_iff.mp h
      obtain ⟨e1, e2⟩ := dictK_T hl
      subst e1 e2
      have e3 : kv = [] := by simpa using hk
      subst e3
      have ey := ry.key hky
      subst ey
      exact ⟨a, none, rfl, Or.inr (Or.inr ⟨rfl, s.rd _ _ hr, k, rfl⟩), .inl ⟨rfl, rfl⟩⟩
    · split at h
      · rename_i k hky
        rw [dictT_of] at h
        cases h
        obtain ⟨b, rfl, hb⟩ := ry.keyT hky
        refine ⟨a, _, rfl, Or.inl (Or.inr ⟨kv, k, b, s.rd _ _ hr, rfl, s.tp _ _ hb, rfl⟩), ?_⟩
        rcases look_rp (k := k) hk rl with ⟨e1, e2⟩ | ⟨w, d, e1, e2, e3⟩
        · exact .inl ⟨e1, e2⟩
        · exact .inr ⟨d, w, e2, e1, e3⟩
      · cases h
  | _ => cases hd
section
variable {X : Cx} {pins : List (Addr × Obj)} {σ : L2.St} {H : Hp} {s : Shared} {a : Addr} {y : V} {u : Value} {o : Option V} {A : Around} {E : Value → Shared → Prop}
theorem emptyH (I : Inv X pins σ H s) (e : Rd H a (.dK [])) : (a == sysModules) = false ∧ s.heap.DictOfH (tupleKind (mixKind X.prog X.w)) a [] := by
  obtain ⟨z, hd, vs, rel, dd⟩ := dk_rd I.hok e
  cases rel
  obtain ⟨ob, es, ep, h1, h2, h3, h4, h5, h6⟩ := dd
  refine ⟨hd, ob, es, ep, h1, h2, h3, ?_, (fun x hx => by cases hx), List.nodup_nil⟩
  cases h7 : es.toList with
  | nil => rfl
  | cons q qs => rw [h7] at h5; cases h5
theorem emptyK (I : Inv X pins σ H s) (e : Rd H a (.dT [])) : (a == sysModules) = false ∧ s.heap.DictOf (mixKind X.prog X.w) a [] := by
  obtain ⟨z, hd, xs, rel, dd⟩ := dt_rd I.hok e
  cases rel
  obtain ⟨ob, es, ep, h1, h2, h3, h4, h5, h6⟩ := dd
  have h7 : es = #[] := by
    have : es.toList = [] := h4
    simpa using this
  subst h7
  refine ⟨hd, ob, #[], ep, h1, h2, h3, (fun q hq => by simp at hq), .nil, List.nodup_nil⟩
theorem dx_in {neg : Bool} {Q : Value → Shared → Prop} (hu : A.units + 1 < cLine) (I : Inv X pins σ H s) (g : DGetX H a y o) (ry : RelV y u) (h : ∀ s', Inv X pins σ H s' → Q (.bool (if neg then !o.isSome else o.isSome)) s') :
    wpAny (model X.prog X.w) A (compareOp (if neg then .NotIn else .In) u (.ref a)) Q E s := by
  rcases g with g | ⟨rfl, e, b, k, rfl, eb⟩ | ⟨rfl, e, k, rfl⟩
  · cases neg
    · exact d_in hu I g ry h
    · exact d_notIn hu I g ry h
  · cases (show u = Value.ref b from ry)
    obtain ⟨hd, dd⟩ := emptyH I e
    cases neg
    · exact wpAny_in_heap (tupleKind_room_in1 hu) (key_of I.hok eb) hd dd (h _ (I.tok _))
    · exact PyProof.Rows.wpAny_notIn_heap (tupleKind_room_in1 hu) (key_of I.hok eb) hd dd (h _ (I.tok _))
  · obtain ⟨hd, dd⟩ := emptyK I e
    cases neg
    · exact wpAny_in_of (kV_is ry) hd dd.mapOf (h _ (I.tok _))
    · exact wpAny_notIn_of (kV_is ry) hd dd.mapOf (h _ (I.tok _))
end
section
variable {X : Cx} {W : WX} {bv : Nat → Option V} {pos p px apos cpos : Pos} {a b c : Expr} {es : List Expr} {fa fb fc : EM D} {fs : EM (List D)} {x : Str}
def rDIn (neg : Bool) : R2 := fun x y H Q => ∃ a o, y = .ref a ∧ DGetX H a x o ∧ Q (.bl (if neg then !o.isSome else o.isSome)) H
theorem or_din {k : Nat} (hr : Room k X.A) (neg : Bool) : OpR X (compareOp (if neg then .NotIn else .In)) (rDIn neg) := by
  intro pins s σ H x y v u Q I rx ry h
  obtain ⟨a, o, rfl, g, q⟩ := h
  cases (show u = Value.ref a from ry)
  exact dx_in (by have := hr.un; omega) I g rx fun s' I' => ⟨.bl _, H, I', rfl, q⟩
def inDD (neg : Bool) (d1 d2 : D) : Option D := match d2 with
  | .dict kvs => (getDD kvs d1).map fun o => .bool (if neg then !o.isSome else o.isSome)
  | _ => none
theorem in_dP {K : PySem.W.Frag} {neg : Bool} : OpP K (rDIn neg) (inDD neg) := by
  intro F H x y d1 d2 d Q s r1 r2 h
  unfold inDD at h
  split at h
  · obtain ⟨o, ho, rfl⟩ := Option.map_eq_some_iff.mp h
    refine ⟨rfl, fun q => ?_⟩
    obtain ⟨a, ov, rfl, g, hh⟩ := get_rp s r2 r1 ho
    refine ⟨a, ov, rfl, g, ?_⟩
    have : ov.isSome = o.isSome := by
      rcases hh with ⟨rfl, rfl⟩ | ⟨_, _, rfl, rfl, _⟩ <;> rfl
    rw [this]
    exact q
  · cases h
/-- an operation whose answer has no address serves data as it stands -/
theorem OpP.v {K : PySem.W.Frag} {r : R2} {g : D → D → Option D} (h : OpP K r g) : OpV K r g := by
  intro W bv e σ F H fp x y d1 d2 Q S r1 r2 q
  obtain ⟨d, hd, q'⟩ := q.lif
  obtain ⟨fl, k⟩ := h F H x y d1 d2 d Q S.sub r1 r2 hd
  exact k (AtG.here (r := rD K) S q' (Rp.flat fl))
/-- in, of lists, tuples, texts, dicts -/
def inA (d1 d2 : D) : Option D := match d2 with
  | .dict _ => inDD false d1 d2
  | _ => inD d1 d2
def ninA (d1 d2 : D) : Option D := match d2 with
  | .dict _ => inDD true d1 d2
  | _ => ninD d1 d2
theorem opv_cases {K : PySem.W.Frag} {r r' : R2} {g g' h : D → D → Option D} (h1 : OpV K r g) (h2 : OpV K r' g') (hh : ∀ x y, h x y = g x y ∨ h x y = g' x y) : OpV K (fun x y H Q => r x y H Q ∨ r' x y H Q) h := by
  intro W bv e σ F H fp x y d1 d2 Q S r1 r2 q
  rcases hh d1 d2 with e1 | e1
  · rw [e1] at q
    exact .inl (h1 W bv e σ F H fp x y d1 d2 Q S r1 r2 q)
  · rw [e1] at q
    exact .inr (h2 W bv e σ F H fp x y d1 d2 Q S r1 r2 q)
theorem od_inA {k : Nat} (hr : Room k X.A) : OpD X (compareOp .In) inA := by
  obtain ⟨r, h1, h2⟩ := od_in hr
  exact ⟨_, OpR.or h1 (or_din hr false), opv_cases h2 in_dP.v fun x y => by unfold inA; split <;> first | exact .inr rfl | exact .inl rfl⟩
theorem od_ninA {k : Nat} (hr : Room k X.A) : OpD X (compareOp .NotIn) ninA := by
  obtain ⟨r, h1, h2⟩ := od_nin hr
  exact ⟨_, OpR.or h1 (or_din hr true), opv_cases h2 in_dP.v fun x y => by unfold ninA; split <;> first | exact .inr rfl | exact .inl rfl⟩
end
end FD

/-! FD: two dicts, the keys tuples, compared. -/
namespace FD
open PySem L2
section
variable {prog : Program} {w : World} {κ : Type} [DecidableEq κ] {knd : HeapKind prog w κ} {A : Around} {E : Value → Shared → Prop} {s : Shared}
/-- what is told of two such dicts -/
def sameH (xa xb : List (κ × Addr × Value)) (ev : κ → Bool) : Bool := xa.all fun x => (atKey xb x.1).isSome && ev x.1
theorem at_some {xs : List (κ × Addr × Value)} {k : κ} {j : Nat} {p : Addr × Value} (hn : (xs.map (·.1)).Nodup) (h : xs[j]? = some (k, p)) : atKey xs k = some p := by
  induction xs generalizing j with
  | nil => simp at h
  | cons x xs ih =>
    rw [List.map_cons, List.nodup_cons] at hn
    cases j with
    | zero =>
      have e : x = (k, p) := by simpa using h
      subst e
      simp [atKey]
    | succ j =>
      have h' : xs[j]? = some (k, p) := by simpa using h
      have ne : ¬ x.1 = k := fun z => hn.1 (by
        rw [z]
        exact List.mem_map.mpr ⟨(k, p), List.mem_of_getElem? h', rfl⟩)
      have := ih hn.2 h'
      simpa [atKey, List.find?_cons, ne] using this
theorem at_none {xs : List (κ × Addr × Value)} {k : κ} (h : ∀ (j : Nat) (p : Addr × Value), xs[j]? ≠ some (k, p)) : atKey xs k = none := by
  cases q : atKey xs k with
  | none => rfl
  | some p =>
    unfold atKey at q
    obtain ⟨x, hx, rfl⟩ := Option.map_eq_some_iff.mp q
    obtain ⟨j, hj⟩ := List.mem_iff_getElem?.mp (List.mem_of_find?_eq_some hx)
    have hk : x.1 = k := by simpa using List.find?_some hx
    exact absurd (by rw [hj, ← hk] : xs[j]? = some (k, x.2)) (h j x.2)
theorem pairsH {nm : String} {a b : Addr} {xa xb : List (κ × Addr × Value)} {ev : κ → Bool} {Q : Bool → Shared → Prop} (hu : knd.room A) (ha : (a == sysModules) = false) (hb : (b == sysModules) = false)
    (da : s.heap.DictOfH knd a xa) (db : s.heap.DictOfH knd b xb) (hits : ∀ k p q, (k, p) ∈ xa → atKey xb k = some q → SeqAt.EqAt A s p.2 q.2 (ev k)) (h : Q (xa.length == xb.length && sameH xa xb ev) s) :
    wpAny (model prog w) A (Builtin.Dict.samePairs nm a b) Q E s := by
  obtain ⟨oa, ea, epa, ga, _, fa, la, ia, na⟩ := da
  obtain ⟨ob, eb, epb, gb, _, fb, lb, ib, nb⟩ := db
  have za : xa.length = ea.size := (size_of_entries la).symm
  have zb : xb.length = eb.size := (size_of_entries lb).symm
  unfold Builtin.Dict.samePairs Builtin.Dict.showsAll
  rw [if_neg (by rw [ha]; decide), if_neg (by rw [hb]; decide)]
  refine wpAny_bind (wpAny_pure (wpAny_bind (wpAny_pure (wpAny_bind (wpAny_dictEntries ga fa ?_)))))
  dsimp only
  refine wpAny_bind (wpAny_dictEntries gb fb ?_)
  by_cases hz : ea.size = eb.size
  · have e0 : (xa.length == xb.length) = true := by rw [za, zb, hz]; exact beq_self_eq_true _
    rw [e0, Bool.true_and] at h
    rw [if_neg (by simp [hz])]
    refine wpAny_bind (wpAny_dictEpoch ga fa (wpAny_bind ?_))
    rw [Std.Legacy.Range.forIn_eq_forIn_range']
    simp only [Std.Legacy.Range.size, Nat.sub_zero, Nat.add_sub_cancel, Nat.div_one]
    refine wpAny_forIn_list _ (fun rest q t => t = s ∧ q = (none, ()) ∧ ∃ i, rest = List.range' i (ea.size - i) ∧ i ≤ ea.size ∧ sameH xa xb ev = sameH (xa.drop i) xb ev) _ ?_ ?_ _ _ ⟨rfl, rfl, 0, by simp, Nat.zero_le _, rfl⟩
    · rintro y rest q t ⟨rfl, rfl, i, hr, hi, hpre⟩
      have lt : i < ea.size := Nat.lt_of_not_le fun z => by
        rw [Nat.sub_eq_zero_of_le z] at hr
        cases hr
      have er : ea.size - i = (ea.size - (i + 1)) + 1 := by omega
      rw [er, List.range'_succ] at hr
      injection hr with hy hrest
      subst hy
      have lx : y < xa.length := by rw [za]; exact lt
      refine wpAny_bind (wpAny_dictEntries ga fa ?_)
      rw [Array.getElem?_eq_getElem lt]
      obtain ⟨k, p, v, hx⟩ : ∃ k p v, xa[y] = (k, p, v) := ⟨_, _, _, rfl⟩
      have hin : (k, p, v) ∈ xa := hx ▸ List.getElem_mem lx
      have ent : ea[y] = ⟨knd.hash k, .ref p, v⟩ := by
        have z := entry_at la y
        rw [Array.getElem?_eq_getElem lt, List.getElem?_eq_getElem lx, hx] at z
        exact Option.some.inj z
      have hcons : xa.drop y = (k, p, v) :: xa.drop (y + 1) := by rw [← hx]; exact List.drop_eq_getElem_cons lx
      rw [hcons] at hpre
      simp only [sameH, List.all_cons] at hpre
      show wpAny _ _ (holding [ea[y].key, ea[y].val] _ >>= _) _ _ _
      rw [ent]
      refine wpAny_bind (wpAny_holding (wpAny_bind (wpAny_dictFind_heap hu (ia _ hin) gb fb lb ib nb (fun nn => ?_) fun j q2 ss => ?_)))
      · rw [at_none nn] at hpre
        have hf : Q false t := by
          have : sameH xa xb ev = false := by simpa [sameH] using hpre
          rw [this] at h
          exact h
        refine wpAny_pure ?_
        show wpAny _ _ (if (!false) = true then _ else _) _ _ _
        rw [if_pos (by decide)]
        exact wpAny_pure (wpAny_pure hf)
      · have hq := at_some nb ss
        rw [hq] at hpre
        have lj : j < eb.size := by
          rw [← zb]
          exact (List.getElem?_eq_some_iff.mp ss).1
        have ent2 : eb[j] = ⟨knd.hash k, .ref q2.1, q2.2⟩ := by
          have z := entry_at lb j
          rw [Array.getElem?_eq_getElem lj, ss] at z
          exact Option.some.inj z
        refine wpAny_bind (wpAny_dictEntries gb fb ?_)
        rw [Array.getElem?_eq_getElem lj]
        have hit := hits k (p, v) q2 hin hq
        rw [show q2.2 = eb[j].val by rw [ent2]] at hit
        refine wpAny_holding (hit prog w _ _ ?_)
        cases he : ev k with
        | false =>
          rw [he] at hpre
          have : sameH xa xb ev = false := by simpa [sameH] using hpre
          rw [this] at h
          show wpAny _ _ (if (!false) = true then _ else _) _ _ _
          rw [if_pos (by decide)]
          exact wpAny_pure (wpAny_pure h)
        | true =>
          rw [he] at hpre
          show wpAny _ _ (if (!true) = true then _ else _) _ _ _
          rw [if_neg (by decide)]
          refine wpAny_bind (wpAny_dictEpoch ga fa ?_)
          rw [if_neg (by simp)]
          exact wpAny_pure ⟨rfl, rfl, y + 1, hrest, lt, by simpa [sameH] using hpre⟩
    · rintro q t ⟨rfl, rfl, i, hr, hi, hpre⟩
      have ei : i = ea.size := by
        rcases Nat.lt_or_ge i ea.size with z | z
        · rw [show ea.size - i = (ea.size - (i + 1)) + 1 by omega, List.range'_succ] at hr
          cases hr
        · exact Nat.le_antisymm hi z
      rw [ei, ← za, List.drop_length] at hpre
      have ht : sameH xa xb ev = true := hpre
      rw [ht] at h
      exact wpAny_pure h
  · have e0 : (xa.length == xb.length) = false := by rw [za, zb]; simpa using hz
    rw [e0, Bool.false_and] at h
    rw [if_pos (by simpa using hz)]
    exact wpAny_bind (wpAny_rule (wpAny_pure h))
theorem eqH {a b : Addr} {xa xb : List (κ × Addr × Value)} {ev : κ → Bool} {Q : Value → Shared → Prop} (hu : knd.room A.in1) (hc : A.units < cLine) (ha : (a == sysModules) = false) (hb : (b == sysModules) = false)
    (da : s.heap.DictOfH knd a xa) (db : s.heap.DictOfH knd b xb) (hits : ∀ k p q, (k, p) ∈ xa → atKey xb k = some q → SeqAt.EqAt A.in1 s p.2 q.2 (ev k)) (h : Q (.bool (xa.length == xb.length && sameH xa xb ev)) s) :
    wpAny (model prog w) A (compareOp .Eq (.ref a) (.ref b)) Q E s := by
  refine wpAny_richCompare_same_room (op := .Eq) da.typeIs db.typeIs PySem.F.slot_dict_eq (wpAny_call_entry PySem.F.slot_dict_eq da.typeIs PySem.F.entry_dict_eq ?_ (PySem.F.args_dict_eq_2 _ _)) hc
  show wpAny _ _ (Builtin.Dict.dictSlotArgs "__eq__" ⟨[.ref a, .ref b], []⟩ >>= _) _ _ s
  unfold Builtin.Dict.dictSlotArgs
  refine wpAny_bind (wpAny_bind (wpAny_notOrdered_dict da.typeIs (wpAny_pure ?_)))
  refine wpAny_bind (wpAny_isInstance (T := "dict") db.typeIs PySem.F.sub_dict_dict ?_)
  simp only [Bool.not_true, Bool.false_eq_true, if_false]
  refine wpAny_bind (wpAny_pure (wpAny_bind (wpAny_pure (wpAny_bind (pairsH hu ha hb da db hits (wpAny_pure ⟨_, rfl, ?_, ?_⟩))))))
  · exact fun x => nomatch x
  · simpa using h
end
end FD

/-! FD: dicts as data and as what is owned: ==, [], get, stores. -/
namespace FD
open PySem L2
section
variable {X : Cx} {W : WX} {bv : Nat → Option V} {pos p px apos cpos : Pos} {a b c : Expr} {es : List Expr} {fa fb fc : EM D} {fs : EM (List D)} {x : Str}
/-! ### d == e -/
/-- data without an address that can be laid -/
def okV (d : D) : Bool := flatD d && d.canLay0
/-- equal dicts, the keys tuples, the values without an address -/
def eqT (ka kb : List (List Key × D)) : Bool := (ka.length == kb.length) && ka.all fun q => match lookK kb q.1 with
  | some y => PyData.eqv q.2 y
  | none => false
def eqDT (d1 d2 : D) : Option D := match d1, d2 with
  | .dict k1, .dict k2 => (dictT k1).bind fun l1 => (dictT k2).bind fun l2 => if (l1.all fun q => okV q.2) && (l2.all fun q => okV q.2) then some (.bool (eqT l1 l2)) else none
  | _, _ => none
theorem flat_reads {K : PySem.W.Frag} {F : Hp} {h : Heap} {v : V} {u : Value} {d : D} (r : Rp K F v d) (f : flatD d = true) (ru : RelV v u) : Reads h u d [] := by
  cases r with
  | non => cases (show u = Value.none from ru); exact .none
  | bl b => cases (show u = Value.bool b from ru); exact .bool b
  | int i => obtain ⟨t, rfl⟩ := ru; exact .int i t
  | str x => obtain ⟨t, rfl⟩ := ru; exact .str x t
  | _ => cases f
theorem valV_map_flat {k : List Key} : ∀ la : List (List Key × D), valV (la.map fun q => (q.1, flatOf q.2)) k = (lookK la k).map flatOf
  | [] => rfl
  | q :: la => by
    rw [List.map_cons]
    by_cases e : q.1 = k
    · rw [valV_pos (p := (q.1, flatOf q.2)) e, lookK_pos e]; rfl
    · rw [valV_neg (p := (q.1, flatOf q.2)) e, lookK_neg e, valV_map_flat la]
theorem look_mem {κ α : Type} [DecidableEq κ] {k : κ} {v : α} : ∀ {la : List (κ × α)}, (la.map (·.1)).Nodup → (k, v) ∈ la → lookK la k = some v
  | [], _, h => by cases h
  | q :: la, hn, h => by
    rw [List.map_cons, List.nodup_cons] at hn
    rcases List.mem_cons.mp h with e | h
    · subst e; exact lookK_pos rfl
    · rw [lookK_neg fun z => hn.1 (by rw [z]; exact List.mem_map.mpr ⟨_, h, rfl⟩)]
      exact look_mem hn.2 h
theorem lookK_in {κ α : Type} [DecidableEq κ] {k : κ} {v : α} {la : List (κ × α)} (h : lookK la k = some v) : (k, v) ∈ la := by
  unfold lookK at h
  obtain ⟨q, hq, rfl⟩ := Option.map_eq_some_iff.mp h
  have e : q.1 = k := by simpa using List.find?_some hq
  rw [← e]
  exact List.mem_of_find?_eq_some hq
def RdT (H : Hp) (a : Addr) (la : List (List Key × D)) : Prop := Rd H a (.dT (la.map fun q => (q.1, flatOf q.2))) ∨ (la = [] ∧ Rd H a (.dK []))
theorem RdT.at {pins : List (Addr × Obj)} {σ : L2.St} {H : Hp} {s : Shared} {a : Addr} {la : List (List Key × D)} (I : Inv X pins σ H s) (h : RdT H a la) : (a == sysModules) = false ∧ ∃ xs, KT H (la.map fun q => (q.1, flatOf q.2)) xs ∧ s.heap.DictOfH (tupleKind (mixKind X.prog X.w)) a xs := by
  rcases h with h | ⟨rfl, h⟩
  · obtain ⟨_, h2, h3⟩ := dt_rd I.hok h
    exact ⟨h2, h3⟩
  · obtain ⟨h2, h3⟩ := emptyH I h
    exact ⟨h2, [], .nil, h3⟩
def rEqT : R2 := fun x y H Q => ∃ (a b : Addr) (la lb : List (List Key × D)), x = .ref a ∧ y = .ref b ∧ RdT H a la ∧ RdT H b lb ∧
  (la.all fun q => okV q.2) = true ∧ (lb.all fun q => okV q.2) = true ∧ Q (.bl (eqT la lb)) H
theorem KT.keysEq {H : Hp} : ∀ {kvs : List (List Key × V)} {xs : List (List Key × Addr × Value)}, KT H kvs xs → xs.map (·.1) = kvs.map (·.1)
  | _, _, .nil => rfl
  | _, _, .cons h t => by rw [List.map_cons, List.map_cons, KT.keysEq t, h.1]
theorem or_eqT {k : Nat} (hr : Room k X.A) : OpR X (compareOp .Eq) rEqT := by
  have hu : X.A.units + 1 < cLine := by have := hr.un; omega
  intro pins s σ H x y v u Q I rx ry h
  obtain ⟨a, b, la, lb, rfl, rfl, h1, h2, f1, f2, q⟩ := h
  cases (show v = Value.ref a from rx)
  cases (show u = Value.ref b from ry)
  obtain ⟨m1, xa, ra, da⟩ := h1.at I
  obtain ⟨m2, xb, rb, db⟩ := h2.at I
  have na : (xa.map (·.1)).Nodup := by obtain ⟨_, _, _, _, _, _, _, _, n⟩ := da; exact n
  have ka : xa.map (·.1) = la.map (·.1) := by rw [KT.keysEq ra, List.map_map]; rfl
  have lena : xa.length = la.length := by simpa using congrArg List.length ka
  have lenb : xb.length = lb.length := by have := congrArg List.length (KT.keysEq rb); simpa using this
  let ev : List Key → Bool := fun k => match lookK la k, lookK lb k with
    | some d, some e => PyData.eqv d e
    | _, _ => false
  have hB : ∀ k, (atKey xb k).isSome = (lookK lb k).isSome := fun k => by
    have z := (rb.val k).isSome_eq
    rw [valV_map_flat, Option.isSome_map, Option.isSome_map] at z
    exact z.symm
  have key : sameH xa xb ev = la.all fun q => match lookK lb q.1 with
      | some y => PyData.eqv q.2 y
      | none => false := by
    have e1 : sameH xa xb ev = (xa.map (·.1)).all fun k => (lookK lb k).isSome && ev k := by
      unfold sameH
      rw [List.all_map]
      congr 1
      funext t
      show ((atKey xb t.1).isSome && ev t.1) = ((lookK lb t.1).isSome && ev t.1)
      rw [hB]
    rw [e1, ka, List.all_map]
    rw [Bool.eq_iff_iff, List.all_eq_true, List.all_eq_true]
    refine forall_congr' fun q => imp_congr_right fun hq => ?_
    have e2 : lookK la q.1 = some q.2 := look_mem (ka ▸ na) hq
    show ((lookK lb q.1).isSome && ev q.1) = true ↔ _
    simp only [ev, e2]
    cases lookK lb q.1 <;> simp
  refine eqH (ev := ev) (tupleKind_room_in1 hu) (by omega) m1 m2 da db (fun k p q hp hq => ?_) ?_
  · have pa : atKey xa k = some p := by
      obtain ⟨j, hj⟩ := List.mem_iff_getElem?.mp hp
      exact at_some na hj
    have va := ra.val k
    have vb := rb.val k
    rw [pa, valV_map_flat] at va
    rw [hq, valV_map_flat] at vb
    simp only [ev]
    cases e1 : lookK la k with
    | none => rw [e1] at va; exact va.elim
    | some d =>
      cases e2 : lookK lb k with
      | none => rw [e2] at vb; exact vb.elim
      | some e =>
        rw [e1] at va
        rw [e2] at vb
        have ⟨fd, cd⟩ := Bool.and_eq_true_iff.mp ((List.all_eq_true.mp f1) _ (lookK_in e1))
        have ⟨fe, ce⟩ := Bool.and_eq_true_iff.mp ((List.all_eq_true.mp f2) _ (lookK_in e2))
        have r1 := flat_reads (h := s.heap) (Rp.flat (K := X.K) (F := fun _ => none) fd) fd va
        have r2 := flat_reads (h := s.heap) (Rp.flat (K := X.K) (F := fun _ => none) fe) fe vb
        refine SeqAt.eqAt_reads d e _ s _ _ _ _ r1 r2 cd ce ?_
        have : d.depth = 0 := by cases d <;> first | (simp [PyData.depth]; done) | cases fd
        rw [this, Nat.zero_min]
        show X.A.units + 1 + 0 < cLine
        omega
  · refine ⟨.bl (eqT la lb), H, I, ?_, q⟩
    show Value.bool _ = Value.bool _
    rw [key, lena, lenb]
    rfl
theorem flat_vals {K : PySem.W.Frag} {F : Hp} : ∀ {kvs : List (List Key × V)} {la : List (List Key × D)}, kvs.map (·.1) = la.map (·.1) → RpL K F (kvs.map (·.2)) (la.map (·.2)) → (la.all fun q => okV q.2) = true → kvs = la.map fun q => (q.1, flatOf q.2)
  | [], [], _, _, _ => rfl
  | [], _ :: _, h, _, _ => by cases h
  | _ :: _, [], h, _, _ => by cases h
  | a :: as, b :: bs, h, r, f => by
    simp only [List.map_cons, List.cons.injEq] at h
    simp only [List.all_cons, Bool.and_eq_true] at f
    cases r with
    | cons r1 r2 =>
      rw [List.map_cons, ← flat_vals h.2 r2 f.2, ← r1.flat_eq (Bool.and_eq_true_iff.mp f.1).1, ← h.1]
theorem rdT_rp {K : PySem.W.Frag} {F H : Hp} {v : V} {kvs : List (D × D)} {la : List (List Key × D)} (s : Sub F H) (r : Rp K F v (.dict kvs)) (h : dictT kvs = some la) (f : (la.all fun q => okV q.2) = true) : ∃ a, v = .ref a ∧ RdT H a la := by
  generalize hd : PyData.dict kvs = dd at r
  cases r with
  | dK hr hk rl =>
    rename_i a kv kds
    cases hd
    obtain ⟨e1, e2⟩ := dictT_K h
    subst e1 e2
    have e3 : kv = [] := by simpa using hk
    subst e3
    exact ⟨a, rfl, .inr ⟨rfl, s.rd _ _ hr⟩⟩
  | dT hr hk rl =>
    rename_i a kv kds
    cases hd
    rw [dictT_of] at h
    cases h
    refine ⟨a, rfl, .inl ?_⟩
    rw [← flat_vals hk rl f]
    exact s.rd _ _ hr
  | _ => cases hd
theorem eq_dP {K : PySem.W.Frag} : OpP K rEqT eqDT := by
  intro F H x y d1 d2 d Q s r1 r2 h
  unfold eqDT at h
  split at h
  · obtain ⟨l1, h1, h⟩ := Option.bind_eq_some_iff.mp h
    obtain ⟨l2, h2, h⟩ := Option.bind_eq_some_iff.mp h
    split at h
    · rename_i hz
      cases h
      rw [Bool.and_eq_true] at hz
      obtain ⟨a, rfl, g1⟩ := rdT_rp s r1 h1 hz.1
      obtain ⟨b, rfl, g2⟩ := rdT_rp s r2 h2 hz.2
      exact ⟨rfl, fun q => ⟨a, b, l1, l2, rfl, rfl, g1, g2, hz.1, hz.2, q⟩⟩
    · cases h
  · cases h
/-- ==, of sequences and of dicts -/
def eqA (d1 d2 : D) : Option D := match d1, d2 with
  | .dict _, .dict _ => eqDT d1 d2
  | _, _ => eqD d1 d2
theorem od_eqA {k : Nat} (hr : Room k X.A) : OpD X (compareOp .Eq) eqA := by
  obtain ⟨r, h1, h2⟩ := od_eq hr
  exact ⟨_, OpR.or h1 (or_eqT hr), opv_cases h2 eq_dP.v fun x y => by unfold eqA; split <;> first | exact .inr rfl | exact .inl rfl⟩
/-! ### d[k] -/
def rDGet : R2 := fun x y H Q => ∃ a v, x = .ref a ∧ DGet H a y (some v) ∧ Q v H
theorem ix_dict {k : Nat} (hr : Room k X.A) : IxR X rDGet := by
  have hu : X.A.units + 1 < cLine := by have := hr.un; omega
  intro value slice pins s σ H x y v u Q I rx ry h hs
  obtain ⟨a, w, rfl, g, q⟩ := h
  cases (show v = Value.ref a from rx)
  have hT := dict_typeIs I g
  unfold PyProof.Rows.subscriptTail
  refine wpAny_bind ?_
  rw [getitemInPython_of_ne hT.not_modules]
  refine wpAny_bind (wpAny_specialOf hT PySem.F.slot_dict_getitem.lookup ?_)
  have fin : wpAny (model X.prog X.w) X.A (subscripted slice false (.ref a) u) (fun r t => wpAny (model X.prog X.w) X.A (do letTemporaryGo value (.ref a) r; pure r) (EP X pins σ Q) X.xe t) X.xe s := by
    rw [hs]
    exact wpAny_operating (d_getItem hu I g ry fun w' s' I' rw' => wpAny_bind (wpAny_letTemporaryGo (wpAny_pure ⟨w, H, I', rw', q⟩)))
  first
    | exact wpAny_pure (wpAny_bind fin)
    | exact wpAny_bind (wpAny_pure (wpAny_bind fin))
    | exact wpAny_bind fin
def ixDD (d1 d2 : D) : Option D := match d1 with
  | .dict kvs => (getDD kvs d2).bind id
  | _ => none
theorem opv_dget {K : PySem.W.Frag} : OpV K rDGet ixDD := by
  intro W bv e σ F H fp x y d1 d2 Q S r1 r2 q
  obtain ⟨d, hd, q'⟩ := q.lif
  unfold ixDD at hd
  split at hd
  · obtain ⟨o, ho, hd⟩ := Option.bind_eq_some_iff.mp hd
    cases (show o = some d from hd)
    obtain ⟨a, ov, rfl, g, hh⟩ := get_rp S.sub r1 r2 ho
    rcases hh with ⟨z, _⟩ | ⟨d', w, z, rfl, rw'⟩
    · cases z
    · cases z
      rcases g with g | ⟨z, _⟩ | ⟨z, _⟩
      · exact ⟨a, w, rfl, g, AtG.here (r := rD K) S q' rw'⟩
      · cases z
      · cases z
  · cases hd
def ixA (d1 d2 : D) : Option D := match d1 with
  | .dict _ => ixDD d1 d2
  | _ => ixD d1 d2
theorem de_ixA {k : Nat} (hr : Room k X.A) (ha : DE X W bv a fa) (hb : DE X W bv b fb) (hs : PlainIx b := by exact fun _ _ => rfl) : DE X W bv (.Subscript a b pos) (bin ixA fa fb) :=
  pe_imp (pe_ix (ix_seq.or (ix_dict hr)) ha hb hs) fun σ H Q t => tOp_of (opv_cases opv_ix opv_dget fun x y => by unfold ixA; split <;> first | exact .inr rfl | exact .inl rfl) t
/-! ### an owned thing's item -/
def itemA (i : Nat) (y : D) (e : Env) : Option D := match e[i]? with
  | some (some (.ls ms)) => match y with
    | .int k => match atI ms k with
      | some (.im d) => some d
      | _ => none
    | _ => none
  | some (some (.dk kms)) => match kOf y with
    | some k => match lookK kms k with
      | some (.im d) => some d
      | _ => none
    | none => none
  | some (some (.dt kms)) => match ksOf y with
    | some k => match lookK kms k with
      | some (.im d) => some d
      | _ => none
    | none => none
  | _ => none
def pkIxA (i : Nat) (fb : EM D) : EM D := chk i (bnd fb fun y e => lif (itemA i y e) e)
theorem itemA_at {K : PySem.W.Frag} {e : Env} {σ : L2.St} {F H : Hp} {fp : Nat → List Addr} {i : Nat} {y : V} {yd d : D} {Q : VK} (S : SS K bv e σ F H fp) (ry : Rp K F y yd) (h : itemA i yd e = some d) :
    ∃ v w, σ[i]? = some (some v) ∧ Rp K F w d ∧ (Q w H → rIx K v y H Q ∨ rDGet v y H Q) := by
  unfold itemA at h
  split at h
  · rename_i ms he
    split at h
    · rename_i k
      cases ry
      obtain ⟨a, vs, v, h1, h2, h3, h4⟩ := item_at (i := i) (k := k) (d := d) S (by unfold itemM; rw [he]; exact h)
      exact ⟨_, v, h1, h4, fun q => .inl (.inl ⟨_, _, _, _, rfl, rfl, SqL.of h2, h3, q⟩)⟩
    · cases h
  · rename_i kms he
    obtain ⟨a, kvs, fpl, h1, h2, h3, h4, h5, h6⟩ := S.dkAt he
    split at h
    · rename_i k hk
      have ey := ry.key hk
      subst ey
      rcases look_own (k := k) h4 h5 with ⟨e1, _⟩ | ⟨v, m, l, e1, e2, o, _⟩
      · rw [e1] at h; cases h
      · rw [e2] at h
        split at h
        · rename_i z
          cases h
          cases z
          cases o
          refine ⟨_, v, h1, by assumption, fun q => .inr ⟨a, v, rfl, ?_, q⟩⟩
          rw [← e1]
          exact DGet.k h2
        · cases h
    · cases h
  · rename_i kms he
    obtain ⟨a, kvs, fpl, h1, h2, h3, h4, h5, h6⟩ := S.dtAt he
    split at h
    · rename_i k hk
      obtain ⟨b, rfl, hb⟩ := ry.keyT hk
      rcases look_own (k := k) h4 h5 with ⟨e1, _⟩ | ⟨v, m, l, e1, e2, o, _⟩
      · rw [e1] at h; cases h
      · rw [e2] at h
        split at h
        · rename_i z
          cases h
          cases z
          cases o
          refine ⟨_, v, h1, by assumption, fun q => .inr ⟨a, v, rfl, ?_, q⟩⟩
          rw [← e1]
          exact DGet.t h2 (S.sub.tp _ _ hb)
        · cases h
    · cases h
  · cases h
theorem de_ixPA (i : Nat) {k : Nat} (hr : Room k X.A) (hb : DE X W bv b fb) (hN : X.N[i]? = some x := by rfl) (hv : Vis X.env.scope x := by first | exact Or.inl rfl | exact Or.inr (Or.inl rfl) | exact Or.inr (Or.inr rfl)) (hd : (x == ("__debug__" : Str)) = false := by decide) (hcd : (x == ("__classdict__" : Str)) = false := by decide)
    (hs : PlainIx b := by exact fun _ _ => rfl) : DE X W bv (.Subscript (.Name x px) b pos) (pkIxA i fb) :=
  pe_imp (pe_ix (ix_seq.or (ix_dict hr)) (pe_var hN hv hd hcd) hb hs) fun σ H Q t => by
    obtain ⟨v, hv, e, F, fp, S, q⟩ := chk_tG t
    refine ⟨v, hv, tG.mono (AtG.bnd' (r := rD X.K) S q) fun y H2 ⟨d2, e2, F2, fp2, s2, S2, r2, q2⟩ => ?_⟩
    obtain ⟨d, hd', q3⟩ : ∃ d, itemA i d2 e2 = some d ∧ AtG X.K W bv (smp (rD X.K)) (ret d) e2 σ F2 H2 fp2 Q := by
      unfold AtG at q2
      dsimp only at q2
      cases hh : itemA i d2 e2 with
      | none => rw [hh] at q2; exact q2.elim
      | some d => rw [hh] at q2; exact ⟨d, rfl, q2⟩
    obtain ⟨v', w, h1, h2, h3⟩ := itemA_at (Q := Q) S2 r2 hd'
    rw [hv] at h1
    cases h1
    exact h3 (AtG.here (r := rD X.K) S2 q3 h2)
end
end FD

/-! FD: enumerate over lists and tuples. -/
namespace FD
open PySem L2 PyProof.Rows
theorem enum_newB {v : Value} {o : Obj} {H : Heap → Prop} (B : Begins v o H) :
    Meets (Builtin.«enumerate.__new__» ⟨[.type "enumerate", v], []⟩) (fun _ R s => H s.heap ∧ R (.ok (.ret (.ref (s.heap.push o).objs.size))) { s with heap := (s.heap.push o).push { cls := .type "enumerate", data := .fields #[.none, .bool false, .ref s.heap.objs.size, rawInt 0, .none, .none] } }) :=
  .of_wp fun prog w A R s hh => by
    obtain ⟨hp, g, d, tk, os⟩ := s
    obtain ⟨h1, h⟩ := hh
    have hsub := sub_enumerate
    have step : ∀ {A' : Around} {E : Value → Shared → Prop} {Q : Value → Shared → Prop}, Q (.ref hp.objs.size) ⟨hp.push o, g, d, tk, os⟩ → wpAny (model prog w) A' (pyIter v) Q E ⟨hp, g, d, tk, os⟩ := fun q => B.iter prog w _ _ ⟨hp, g, d, tk, os⟩ _ h1 q
    wp_walk using step
    refine wpAny_stack_any fun st => wpAny_pure ?_
    split
    · rename_i c _ _ _ _ _
      cases (c == Value.type "enumerate") <;> (wp_walk using step; exact ⟨_, rfl, h⟩)
    · wp_walk using step
      exact ⟨_, rfl, h⟩
theorem enum_begin {prog : Program} {w : World} {A : Around} {E : Value → Shared → Prop} {s : Shared} {v : Value} {o : Obj} {H : Heap → Prop} {Q : Value → Shared → Prop} (B : Begins v o H) (h1 : H s.heap)
    (h : ∀ h', IsEnum h' (s.heap.objs.size + 1) s.heap.objs.size 0 .none → h'.get? s.heap.objs.size = some o → (∀ b o, s.heap.get? b = some o → h'.get? b = some o) → Q (.ref (s.heap.objs.size + 1)) { s with heap := h' }) :
    wpAny (model prog w) A (call (.type "enumerate") [v]) Q E s := by
  refine callType_new F.called_enumerate (by decide) (F.typeCall_enumerate_1 _) (F.newCall_enumerate_1 _) (fun obj => F.args_object_init_2 obj _) F.entry_enumerate_new (enum_newB B) ⟨h1, ?_⟩
  have hz : (s.heap.push o).objs.size = s.heap.objs.size + 1 := Heap.size_push ..
  have he := Heap.get?_push_size (s.heap.push o) (o := { cls := .type "enumerate", data := .fields #[.none, .bool false, .ref s.heap.objs.size, rawInt 0, .none, .none] }) rfl
  rw [hz] at he
  show _ ∧ _
  rw [hz]
  exact ⟨⟨_, he, rfl⟩, h _ he (Heap.get?_push_of_some _ (Heap.get?_push_size _ B.free)) fun b o x => Heap.get?_push_of_some _ (Heap.get?_push_of_some _ x)⟩
/-- the tuple at a, each item in a new pair -/
def ItTe (K : PySem.W.Frag) (a : Addr) : It where
  go i H := ∃ (xs : List V) (x : V), SqT K H a xs ∧ xs[i]? = some x
  yld i H v H' := ∃ T x, v = .ref T ∧ H T = none ∧ H' = upd H T (.tup [.int (i : Nat), x]) ∧ ∀ xs, SqT K H a xs → xs[i]? = some x
  stop i H := ∃ xs : List V, SqT K H a xs ∧ i = xs.length
def EnT (a e it : Addr) (i : Nat) (h : Heap) : Prop := (∃ old, IsEnum h e it ((i : Nat) : Int) old) ∧ h.IsTupleIter it a i ∧ e ≠ it ∧ a ≠ it ∧ a ≠ e
theorem turn_enumT {P : Program} {w : World} {K : PySem.W.Frag} {elts : List Expr} {kk : Nat} {tpos : Pos} (a e it : Addr) : Turn P w K (.Tuple elts kk tpos) (ItTe K a) [e, it] e (EnT a e it) where
  mem := List.mem_cons_self
  obj := fun i h st b hb => by
    obtain ⟨⟨old, he⟩, ⟨o, ho, hc, hd⟩, _⟩ := st
    rcases (by simpa using hb : b = e ∨ b = it) with z | z
    · rw [z]; exact ⟨_, he, fun v q => nomatch q⟩
    · rw [z]; exact ⟨o, ho, fun v q => by rw [hd] at q; cases q⟩
  keep := fun i h h' st k => by
    obtain ⟨⟨old, he⟩, hi, hn⟩ := st
    exact ⟨⟨old, k e (by simp) _ he⟩, hi.at fun o q => k it (by simp) o q, hn⟩
  item := by
    intro X hP hw hK hc i pins s σ H E I hf st hg
    subst hP hw hK
    obtain ⟨⟨old, he⟩, hit, hne, hai, hae⟩ := st
    obtain ⟨xs, x, hq, hx⟩ := hg
    obtain ⟨its, rv, ip, hz⟩ := I.tuple hq
    obtain ⟨u, hu, ru⟩ := rv.get hx
    have hel : e < s.heap.objs.size := Heap.lt_size he
    have hil : it < s.heap.objs.size := by obtain ⟨_, q, _⟩ := hit; exact Heap.lt_size q
    have ilt : i < its.toArray.size := by
      have := (List.getElem?_eq_some_iff.mp hu).1
      simpa using this
    have tup : s.heap.IsTuple a its.toArray := ip
    refine wpAny_pyNext_enum_itemC (Draws.tuple (A := X.A.in1) (I.ok.hd hc) it a hai its.toArray) he ⟨hit, tup⟩ ilt hne (by simp [hne, Ne.symm hae]) fun x' h' tk hpx ho st' hT hsz hk => ?_
    have ex : x' = u := by
      have : its.toArray[i]? = some u := by simpa using hu
      rw [this] at hpx
      exact (Option.some.inj hpx).symm
    subst ex
    refine ⟨_, rfl, wpAny_letOwnedTupleGo_enum (s := { s with heap := h', toks := tk + 1 }) ho fun h'' he' sb => ?_⟩
    have hT2 := (sb.2 _ (Nat.ne_of_gt hel)).trans hT
    have new : ObjOk X.prog X.w (upd H s.heap.objs.size (.tup [.int (i : Nat), x])) h'' s.heap.objs.size (.tup [.int (i : Nat), x]) := ⟨by show 2 ≤ sizeLine; decide, [.int i tk, x'], .cons ⟨_, rfl⟩ (.cons ru .nil), ⟨_, hT2, rfl, _, rfl⟩⟩
    have I1 : Inv X pins σ (upd H s.heap.objs.size (.tup [.int (i : Nat), x])) { s with heap := h'', toks := tk + 1 } :=
      I.turnedNew (ch := [e, it]) (fun b ob hb q => (sb.2 b fun z => hb (by simp [z])).trans (hk b ob (fun z => hb (by simp [z])) (fun z => hb (by simp [z])) q)) hf (Nat.le_refl _) new
    refine ⟨.ref s.heap.objs.size, _, I1, rfl, ⟨_, x, rfl, I.hok.fresh (Nat.le_refl _), rfl, fun ys hy => by rw [I.tuple_inj hy hq]; exact hx⟩, ⟨⟨x', ?_⟩, st'.1.at fun o q => (sb.2 it (Ne.symm hne)).trans q, hne, hai, hae⟩, fun b hb => ?_⟩
    · rw [show ((i + 1 : Nat) : Int) = (i : Int) + 1 by omega]
      exact he'
    · have lt : b < s.heap.objs.size := by
        rcases (by simpa using hb : b = e ∨ b = it) with z | z <;> rw [z] <;> assumption
      rw [upd_ne (Nat.ne_of_lt lt)]
      exact (hf b hb).1
  done := by
    intro X hP hw hK hc i pins s σ H E I hf st hg
    subst hP hw hK
    obtain ⟨⟨old, he⟩, hit, hne, hai, hae⟩ := st
    obtain ⟨xs, hq, hx⟩ := hg
    obtain ⟨its, rv, ip, hz⟩ := I.tuple hq
    obtain ⟨f0, f1, f2, f3, f4, f5⟩ := hf it (by simp)
    have hl : i = its.toArray.size := by rw [hx, rv.length]; simp
    rw [hl] at hit
    exact wpAny_pyNext_enum_endD (Draws.tuple (A := X.A.in1) (I.ok.hd hc) it a hai its.toArray) he ⟨hit, ip⟩ fun h' eb => ⟨rfl, I.turned (t' := s.toks) (fun b o hb q => eb b o hb q) f0 f1 f3 f4 f5⟩
  self := fun A i s Q E st h => by
    obtain ⟨⟨_, he⟩, _⟩ := st
    exact wpAny_pyIter_enum he h
/-! ### the walks as data -/
section
variable {X : Cx} {W : WX} {bv : Nat → Option V} {pos p tpos : Pos} {a b : Expr} {fa fb : EM D} {fs : EM (List D)} {elts : List Expr} {kk : Nat}
def iEnT (K : PySem.W.Frag) (ta : TA) : TI := fun σ H R => ta σ H fun vs H1 => ∃ a xs, vs = [.ref a] ∧ SqT K H1 a xs ∧ R (ItTe K a) H1
theorem pi_enT {e : Expr} {ta : TA} (hg : Gl X "enumerate") (hm : X.mg "enumerate" = none) (ha : PA X [e] ta) (hs : starEach [e] X.env = [(false, eval e X.env)] := by rfl) : PI X (.Tuple elts kk tpos) (.Call (.Name "enumerate" p) [e] [] pos) (iEnT X.K ta) := by
  refine ⟨fun pins s σ H R I h => Call_ (ld_blt I hg hm boot_enumerate (PyProof.Rows.callWith_type1 (thn (ha.run pos pins s σ H _ I h) fun us s1 ⟨vs, H1, I1, r1, q1⟩ => ?_) hs rfl))⟩
  obtain ⟨a, xs, ex, hq, q⟩ := q1
  subst ex
  rw [Vals.ref1 r1]
  obtain ⟨its, rv, ip, hz⟩ := I1.tuple hq
  have alt : a < s1.heap.objs.size := ip.lt
  refine enum_begin (begins_tuple a its.toArray) ip fun h' he hit hk => wpAny_pyIter_enum he ?_
  have I2 : Inv X pins σ H1 { s1 with heap := h' } := I1.kept (t' := s1.toks) hk
  refine ⟨s1.heap.objs.size + 1, [s1.heap.objs.size + 1, s1.heap.objs.size], _, _, H1, rfl, I2, turn_enumT a (s1.heap.objs.size + 1) s1.heap.objs.size, ⟨⟨.none, he⟩, ⟨_, hit, rfl, rfl⟩, Nat.succ_ne_self _, Nat.ne_of_lt alt, Nat.ne_of_lt (Nat.lt_succ_of_lt alt)⟩, fun b hb => ?_, q⟩
  have hle : s1.heap.objs.size ≤ b := by
    rcases (by simpa using hb : b = s1.heap.objs.size + 1 ∨ b = s1.heap.objs.size) with z | z
    · rw [z]; exact Nat.le_succ _
    · rw [z]; exact Nat.le_refl _
  exact I1.fpOk hle (I1.hok.fresh hle)
def enumDs (ds : List D) : List D := ds.zipIdx.map fun q => .tuple [.int (q.2 : Nat), q.1]
theorem enum_get {ds : List D} {i : Nat} {d : D} (h : (enumDs ds)[i]? = some d) : ∃ y, ds[i]? = some y ∧ d = .tuple [.int (i : Nat), y] := by
  unfold enumDs at h
  rw [List.getElem?_map] at h
  obtain ⟨q, hq, rfl⟩ := Option.map_eq_some_iff.mp h
  rw [List.getElem?_zipIdx] at hq
  obtain ⟨y, hy, rfl⟩ := Option.map_eq_some_iff.mp hq
  exact ⟨y, hy, by simp⟩
theorem enum_len {ds : List D} : (enumDs ds).length = ds.length := by simp [enumDs]
def enL : List D → Option (List D)
  | [.list ds] => some (enumDs ds)
  | _ => none
def enT : List D → Option (List D)
  | [.tuple ds] => some (enumDs ds)
  | _ => none
def enA : List D → Option (List D)
  | [.list ds] => some (enumDs ds)
  | [.tuple ds] => some (enumDs ds)
  | _ => none
theorem grow_pair {K : PySem.W.Frag} {F F' H : Hp} {T : Addr} {i : Nat} {v : V} {y : D} (s1 : Sub F F') (s2 : Sub F' H) (rv : Rp K F v y) (hT : H T = none) : ∃ F'', Grow F' H F'' (upd H T (.tup [.int (i : Nat), v])) ∧ Rp K F'' (.ref T) (.tuple [.int (i : Nat), y]) :=
  ⟨_, .inr (.inl ⟨T, _, hT, rfl, rfl⟩), .tup upd_same (.cons (.int _) (.cons ((rv.mono s1).mono (Sub.new (s2.non hT))) .nil))⟩
theorem di_enL (hm : X.mg "enumerate" = none) (ha : DA X W bv [a] fs) (hg : Gl X "enumerate" := by rfl) (hs : starEach [a] X.env = [(false, eval a X.env)] := by rfl) : DI X W bv (.Tuple elts kk tpos) (.Call (.Name "enumerate" p) [a] [] pos) (itA enL fs) :=
  pi_imp (pi_enum hg hm ha hs) fun σ H R t => tG.mono (tI_bndA t) fun x H1 ⟨d, e1, F1, fp1, ds, S1, r1, hk, q⟩ => by
    unfold enL at hk
    split at hk
    · rename_i ds0
      cases hk
      cases r1 with
      | cons r1 r =>
        cases r
        cases r1 with
        | lst hl rl =>
          refine ⟨_, _, rfl, S1.sub.l hl, q _ F1 H1 fp1 (Stp.refl _ _ _) S1 fun F' H' i s1 s2 => ⟨fun d hd => ?_, fun h1 h2 => ⟨_, s2.l (s1.l hl), by rw [rl.length]; rw [enum_len] at h1; exact h1⟩⟩⟩
          obtain ⟨y, hy, rfl⟩ := enum_get hd
          obtain ⟨v, hv, rv⟩ := rl.get hy
          refine ⟨⟨_, v, s2.l (s1.l hl), hv⟩, fun x H'' ⟨T, x', e1, e2, e3, e4⟩ => ?_⟩
          have := e4 _ (s2.l (s1.l hl))
          rw [hv] at this
          cases this
          subst e1 e3
          exact grow_pair s1 s2 rv e2
    · cases hk
theorem di_enT (hm : X.mg "enumerate" = none) (ha : DA X W bv [a] fs) (hg : Gl X "enumerate" := by rfl) (hs : starEach [a] X.env = [(false, eval a X.env)] := by rfl) : DI X W bv (.Tuple elts kk tpos) (.Call (.Name "enumerate" p) [a] [] pos) (itA enT fs) :=
  pi_imp (pi_enT hg hm ha hs) fun σ H R t => tG.mono (tI_bndA t) fun x H1 ⟨d, e1, F1, fp1, ds, S1, r1, hk, q⟩ => by
    unfold enT at hk
    split at hk
    · rename_i ds0
      cases hk
      cases r1 with
      | cons r1 r =>
        cases r
        cases r1 with
        | tup hl rl =>
          refine ⟨_, _, rfl, S1.sub.t hl, q _ F1 H1 fp1 (Stp.refl _ _ _) S1 fun F' H' i s1 s2 => ⟨fun d hd => ?_, fun h1 h2 => ⟨_, (s1.trans s2).t hl, by rw [rl.length]; rw [enum_len] at h1 h2; omega⟩⟩⟩
          obtain ⟨y, hy, rfl⟩ := enum_get hd
          obtain ⟨v, hv, rv⟩ := rl.get hy
          refine ⟨⟨_, v, (s1.trans s2).t hl, hv⟩, fun x H'' ⟨T, x', e1, e2, e3, e4⟩ => ?_⟩
          have := e4 _ ((s1.trans s2).t hl)
          rw [hv] at this
          cases this
          subst e1 e3
          exact grow_pair s1 s2 rv e2
    · cases hk
/-- by what the denotation says, one rule or another -/
theorem pi_case {tg iter : Expr} {f : EM (List D)} (h : ∀ e : Env, ∃ g : EM (List D), g e = f e ∧ DI X W bv tg iter g) : DI X W bv tg iter f :=
  ⟨fun pins s σ H R I ⟨e, F, fp, S, q⟩ => by
    obtain ⟨g, hg, hd⟩ := h e
    refine hd.run pins s σ H R I ⟨e, F, fp, S, ?_⟩
    rw [hg]
    exact q⟩
theorem di_enum (hm : X.mg "enumerate" = none) (ha : DA X W bv [a] fs) (hg : Gl X "enumerate" := by rfl) (hs : starEach [a] X.env = [(false, eval a X.env)] := by rfl) : DI X W bv (.Tuple elts kk tpos) (.Call (.Name "enumerate" p) [a] [] pos) (itA enA fs) :=
  pi_case fun e => by
    unfold itA bnd
    cases z : fs e with
    | no => exact ⟨itA enL fs, by unfold itA bnd; rw [z], di_enL hm ha hg hs⟩
    | ex C fs' e' => exact ⟨itA enL fs, by unfold itA bnd; rw [z], di_enL hm ha hg hs⟩
    | ok ds e1 =>
      by_cases hz : enA ds = enL ds
      · exact ⟨itA enL fs, by unfold itA bnd; rw [z]; dsimp only; rw [hz], di_enL hm ha hg hs⟩
      · refine ⟨itA enT fs, ?_, di_enT hm ha hg hs⟩
        unfold itA bnd
        rw [z]
        dsimp only
        have : enT ds = enA ds := by
          unfold enA at hz ⊢
          split at hz
          · exact absurd rfl hz
          · rfl
          · exact absurd (by unfold enL; split <;> simp_all) hz
        rw [this]
theorem di_seq {tg : Expr} (h : DE X W bv a fa) : DI X W bv tg a (itE itD fa) :=
  pi_case fun e => by
    unfold itE bnd
    cases z : fa e with
    | no => exact ⟨itE itL fa, by unfold itE bnd; rw [z], di_list h⟩
    | ex C fs' e' => exact ⟨itE itL fa, by unfold itE bnd; rw [z], di_list h⟩
    | ok d e1 =>
      cases d with
      | tuple ds => exact ⟨itE itT fa, by unfold itE bnd; rw [z]; rfl, di_tup h⟩
      | str ds => exact ⟨itE itS fa, by unfold itE bnd; rw [z]; rfl, di_str h⟩
      | _ => exact ⟨itE itL fa, by unfold itE bnd; rw [z]; rfl, di_list h⟩
end
end FD

/-! FD: calls with keywords. -/
namespace FD
open PySem L2
def pick {α : Type} (l ds : List α) (ix : List (Nat ⊕ Nat)) : List α := ix.filterMap fun j => match j with
  | .inl j => l[j]?
  | .inr j => ds[j]?
def okIx (n m : Nat) (ix : List (Nat ⊕ Nat)) : Bool := ix.all fun j => match j with
  | .inl j => decide (j < n)
  | .inr j => decide (j < m)
/-- what holds of one and one, of lists -/
inductive Two {α β : Type} (R : α → β → Prop) : List α → List β → Prop
  | nil : Two R [] []
  | cons {a : α} {b : β} {as : List α} {bs : List β} : R a b → Two R as bs → Two R (a :: as) (b :: bs)
theorem Two.length {α β : Type} {R : α → β → Prop} : ∀ {as : List α} {bs : List β}, Two R as bs → as.length = bs.length
  | _, _, .nil => rfl
  | _, _, .cons _ t => by rw [List.length_cons, List.length_cons, t.length]
theorem Two.get {α β : Type} {R : α → β → Prop} : ∀ {as : List α} {bs : List β} {j : Nat} {a : α} {b : β}, Two R as bs → as[j]? = some a → bs[j]? = some b → R a b
  | _, _, _, _, _, .nil, h, _ => by simp at h
  | _, _, 0, _, _, .cons r _, h1, h2 => by simp at h1 h2; subst h1 h2; exact r
  | _, _, j + 1, _, _, .cons _ t, h1, h2 => t.get (j := j) (by simpa using h1) (by simpa using h2)
theorem Two.append {α β : Type} {R : α → β → Prop} : ∀ {as as' : List α} {bs bs' : List β}, Two R as bs → Two R as' bs' → Two R (as ++ as') (bs ++ bs')
  | _, _, _, _, .nil, t => t
  | _, _, _, _, .cons r s, t => .cons r (s.append t)
theorem Two.pick {α β : Type} {R : α → β → Prop} {as da : List α} {bs db : List β} (h : Two R as bs) (hd : Two R da db) : ∀ {ix : List (Nat ⊕ Nat)}, okIx as.length da.length ix = true → Two R (FD.pick as da ix) (FD.pick bs db ix)
  | [], _ => .nil
  | .inl j :: ix, ok => by
    simp only [okIx, List.all_cons, Bool.and_eq_true, decide_eq_true_eq] at ok
    have l2 : j < bs.length := by rw [← h.length]; exact ok.1
    show Two R (List.filterMap _ _) (List.filterMap _ _)
    rw [List.filterMap_cons, List.filterMap_cons]
    simp only [List.getElem?_eq_getElem ok.1, List.getElem?_eq_getElem l2]
    exact .cons (h.get (List.getElem?_eq_getElem ok.1) (List.getElem?_eq_getElem l2)) (Two.pick h hd ok.2)
  | .inr j :: ix, ok => by
    simp only [okIx, List.all_cons, Bool.and_eq_true, decide_eq_true_eq] at ok
    have l2 : j < db.length := by rw [← hd.length]; exact ok.1
    show Two R (List.filterMap _ _) (List.filterMap _ _)
    rw [List.filterMap_cons, List.filterMap_cons]
    simp only [List.getElem?_eq_getElem ok.1, List.getElem?_eq_getElem l2]
    exact .cons (hd.get (List.getElem?_eq_getElem ok.1) (List.getElem?_eq_getElem l2)) (Two.pick h hd ok.2)
theorem two_vals : ∀ {vs : List V} {us : List Value}, Vals vs us → Two RelV vs us
  | _, _, .nil => .nil
  | _, _, .cons r t => .cons r (two_vals t)
theorem vals_two : ∀ {vs : List V} {us : List Value}, Two RelV vs us → Vals vs us
  | _, _, .nil => .nil
  | _, _, .cons r t => .cons r (vals_two t)
/-- one argument -/
def rA1 (K : PySem.W.Frag) (σ : L2.St) (F : Hp) (x : V) : AR → Prop
  | .d d => Rp K F x d
  | .b s => σ[s]? = some (some x)
theorem two_ar {K : PySem.W.Frag} {σ : L2.St} {F : Hp} : ∀ {vs : List V} {as : List AR}, rAR K σ F vs as → Two (rA1 K σ F) vs as
  | [], [], _ => .nil
  | [], .d _ :: _, h => h.elim
  | [], .b _ :: _, h => h.elim
  | _ :: _, [], h => h.elim
  | _ :: _, .d _ :: _, h => .cons h.1 (two_ar h.2)
  | _ :: _, .b _ :: _, h => .cons h.1 (two_ar h.2)
theorem ar_two {K : PySem.W.Frag} {σ : L2.St} {F : Hp} : ∀ {vs : List V} {as : List AR}, Two (rA1 K σ F) vs as → rAR K σ F vs as
  | _, _, .nil => trivial
  | _, .d _ :: _, .cons r t => ⟨r, ar_two t⟩
  | _, .b _ :: _, .cons r t => ⟨r, ar_two t⟩
theorem rAR_mono {K : PySem.W.Frag} {σ : L2.St} {F G : Hp} (s : Sub F G) : ∀ {vs : List V} {as : List AR}, rAR K σ F vs as → rAR K σ G vs as
  | [], [], _ => trivial
  | [], .d _ :: _, h => h.elim
  | [], .b _ :: _, h => h.elim
  | _ :: _, [], h => h.elim
  | _ :: _, .d _ :: _, h => ⟨Rp.mono s h.1, rAR_mono s h.2⟩
  | _ :: _, .b _ :: _, h => ⟨h.1, rAR_mono s h.2⟩
theorem two_flat {K : PySem.W.Frag} {σ : L2.St} {F : Hp} : ∀ {ds : List D}, flatAll ds = true → Two (rA1 K σ F) (ds.map flatOf) (ds.map AR.d)
  | [], _ => .nil
  | d :: ds, h => by
    simp only [flatAll, List.all_cons, Bool.and_eq_true] at h
    exact .cons (Rp.flat h.1) (two_flat h.2)
/-- what a call with n positional values and the keywords ks binds: ix tells for each parameter where its value comes from, ds the defaults that are used -/
structure KBG (K : PySem.W.Frag) (fd : FuncData) (ps : List Str) (n : Nat) (ks : List Str) (ix : List (Nat ⊕ Nat)) (ds : List D) : Prop where
  ok : okIx (n + ks.length) ds.length ix = true
  fl : flatAll ds = true
  to : ∀ (s : Shared) (us ws : List Value), K.In s.heap → us.length = n → ws.length = ks.length → ∃ dus, Vals (ds.map flatOf) dus ∧ BindsTo s fd ⟨us, ks.zip ws⟩ (ps.zip (pick (us ++ ws) dus ix))
theorem kb_plain {K : PySem.W.Frag} {x qual : Str} {st : Stmt} {f : Addr} {fd : FuncData} {ps : List Str} (Fn : Fun K x qual st f fd) (n : Nat) (ks : List Str) (ix : List (Nat ⊕ Nat)) (ok : okIx (n + ks.length) 0 ix = true)
    (h : ∀ (kV doc pm : Value) (an : Option Addr) (cdv ct : Value) (us ws : List Value), us.length = n → ws.length = ks.length → bindArgs (PySem.W.fnOf x qual (defArgs st) (defBody st) (defScope st) .none kV doc pm an cdv ct) ⟨us, ks.zip ws⟩ = pure (ps.zip (pick (us ++ ws) [] ix))) : KBG K fd ps n ks ix [] where
  ok := ok
  fl := rfl
  to := fun s us ws X l1 l2 => by
    obtain ⟨oc, od, kV, doc, pm, an, cdv, ct, osl, rfl, lk, hcd⟩ := Fn.ex
    exact ⟨[], .nil, .of_eq (h kV doc pm an cdv ct us ws l1 l2)⟩
theorem Fun.of_D {K : PySem.W.Frag} {x qual : Str} {st : Stmt} {f : Addr} {fd : FuncData} {kws : List (Str × V)} (Fn : FunD K x qual (defArgs st) (defBody st) (defScope st) [] kws f fd) : Fun K x qual st f fd := by
  obtain ⟨oc, od, dV, kV, doc, pm, an, cdv, ct, osl, e, lk, hcd, hD, hK⟩ := Fn.ex
  rcases hD with ⟨_, rfl⟩ | ⟨z, _⟩
  · exact ⟨⟨oc, od, kV, doc, pm, an, cdv, ct, osl, e, lk, hcd⟩, Fn.kp⟩
  · exact absurd rfl z
theorem kb_kw {K : PySem.W.Frag} {x qual : Str} {st : Stmt} {f : Addr} {fd : FuncData} {ps : List Str} {kws : List (Str × V)} (Fn : FunD K x qual (defArgs st) (defBody st) (defScope st) [] kws f fd) (n : Nat) (ks : List Str) (ix : List (Nat ⊕ Nat)) (ms : List (Str × D)) (hk : kws ≠ [])
    (hms : ∀ q ∈ ms, (q.1, flatOf q.2) ∈ kws) (fl : flatAll (ms.map (·.2)) = true) (ok : okIx (n + ks.length) ms.length ix = true)
    (h : ∀ (D : Addr) (doc pm : Value) (an : Option Addr) (cdv ct : Value) (us ws mv : List Value), us.length = n → ws.length = ks.length → mv.length = ms.length →
      KwChain D ((ms.map (·.1)).zip mv) (bindArgs (PySem.W.fnOf x qual (defArgs st) (defBody st) (defScope st) .none (.ref D) doc pm an cdv ct) ⟨us, ks.zip ws⟩) (ps.zip (pick (us ++ ws) mv ix))) : KBG K fd ps n ks ix (ms.map (·.2)) where
  ok := by rw [List.length_map]; exact ok
  fl := fl
  to := fun s us ws X l1 l2 => by
    obtain ⟨oc, od, dV, kV, doc, pm, an, cdv, ct, osl, rfl, lk, hcd, hD, hK⟩ := Fn.ex
    rcases hD with ⟨_, rfl⟩ | ⟨z, _⟩
    · rcases hK with e | ⟨D, rfl, hq⟩
      · exact absurd e hk
      · obtain ⟨mv, hl, rk, hks⟩ := kwd_vals (ms := ms.map fun q => (q.1, flatOf q.2)) fun q hm => by
          obtain ⟨q', h1, rfl⟩ := List.mem_map.mp hm
          exact hq _ (hms q' h1)
        rw [List.map_map] at rk hks
        rw [List.length_map] at hl
        refine ⟨mv, by rw [List.map_map]; exact rk, BindsTo.of_looks fun M => KwChain.looks X hks (h D doc pm an cdv ct us ws mv l1 l2 hl)⟩
    · exact absurd rfl z
section
variable {X : Cx} {W : WX} {bv : Nat → Option V} {pos p : Pos} {a : Expr} {es : List Expr} {fa : EM D} {fr frk : EM (List AR)} {kws : List Keyword} {nm : Option Str} {kpos : Pos} {x : Str} {k n : Nat} {f : Addr} {fd : FuncData} {ps ks : List Str} {sp : Sp} {E : XK} {ix : List (Nat ⊕ Nat)} {ds : List D} {t tk : TA}
abbrev DK (X : Cx) (W : WX) (bv : Nat → Option V) (kws : List Keyword) (f : EM (List AR)) : Prop := PK X kws (tR X.K W bv f)
theorem pk_imp {kws : List Keyword} {t t' : TA} (h : PK X kws t) (w : ∀ σ H Q, t' σ H Q → t σ H Q) : PK X kws t' := ⟨fun pos pins s σ H Q I q => h.run pos pins s σ H Q I (w σ H Q q)⟩
theorem dk_nil : DK X W bv [] arN := pk_imp pk_nil fun σ H Q ⟨e, F, fp, S, q⟩ => AtG.here (r := rAR X.K σ) S q trivial
theorem dk_cons (h : DE X W bv a fa) (hr : DK X W bv kws fr) : DK X W bv (⟨nm, a, kpos⟩ :: kws) (arD fa fr) :=
  pk_imp (pk_cons h hr) fun σ H Q t => by
    refine tG.mono (tG.bnd (r := rD X.K) t) fun x H1 ⟨d, e1, F1, fp1, S1, r1, q1⟩ => ?_
    refine tG.mono (AtG.bnd' (r := rAR X.K σ) S1 q1) fun xs H2 ⟨as, e2, F2, fp2, s2, S2, r2, q2⟩ => ?_
    exact AtG.here (r := rAR X.K σ) S2 q2 ⟨Rp.mono s2 r1, r2⟩
/-- positional and keyword arguments in the parameters' order -/
def kwA (n m : Nat) (ix : List (Nat ⊕ Nat)) (ds : List D) (fr frk : EM (List AR)) : EM (List AR) := bnd fr fun as => bnd frk fun bs => lif (if as.length = n ∧ bs.length = m then some (pick (as ++ bs) (ds.map .d) ix) else none)
theorem bnd_assoc {α β γ : Type} {f : EM α} {g : α → EM β} {h : β → EM γ} : bnd (bnd f g) h = bnd f fun a => bnd (g a) h := by
  funext e
  unfold bnd
  cases f e <;> rfl
theorem run_G {pins : List (Addr × Obj)} {σ : L2.St} {H : Hp} {s : Shared} {Q : VK} {us ws : List Value} {vs zs : List V} (G : FnG X.prog X.w X.K X.mg X.base k f fd ps sp) (hg : X.A.guards = some []) (hr : Room k X.A) (hb : KBG X.K fd ps n ks ix ds) (I : Inv X pins σ H s) (r : Vals vs us) (rz : Vals zs ws) (l1 : vs.length = n) (l2 : zs.length = ks.length)
    (h : sp (pick (vs ++ zs) (ds.map flatOf) ix) H Q E) : wpAny (model X.prog X.w) X.A (call (.ref f) us (ks.zip ws)) (EP X pins σ Q) X.xe s := by
  obtain ⟨dus, rd, bi⟩ := hb.to s us ws I.kIn (r.length.symm.trans l1) (rz.length.symm.trans l2)
  refine wpAny_call (goG (E := E) G hg hr I bi (vals_two (((two_vals r).append (two_vals rz)).pick (two_vals rd) ?_)) h)
  rw [List.length_append, l1, l2, List.length_map]
  exact hb.ok
theorem pe_callKG (G : FnG X.prog X.w X.K X.mg X.base k f fd ps sp) (hgd : X.A.guards = some []) (hr : Room k X.A) (hm : X.mg x = some (.ref f)) (hk : PySem.W.keepIn X.K (.ref f) = true) (hb : KBG X.K fd ps n ks ix ds)
    (ha : PA X (a :: es) t) (hkw : PK X kws tk) (hg : Gl X x) (hdb : (x == ("__debug__" : Str)) = false) (hall : (backToKw pos (keywordEach kws X.env)).all (·.1.isSome) = true) (hks : (backToKw pos (keywordEach kws X.env)).filterMap (·.1) = ks)
    (he : starEach (a :: es) X.env = (false, eval a X.env) :: starEach es X.env) (hpl : ((backTo pos (starEach (a :: es) X.env)).any (·.1) || (backToKw pos (keywordEach kws X.env)).any (·.1.isNone)) = false) :
    PE X (.Call (.Name x p) (a :: es) kws pos) (fun σ H Q => t σ H fun vs H1 => tk σ H1 fun zs H2 => vs.length = n ∧ zs.length = ks.length ∧ sp (pick (vs ++ zs) (ds.map flatOf) ix) H2 Q E) := by
  refine ⟨fun pins s σ H Q I h => wpAny_Call_Name_kw (ld_glob I hg hm ?_ hdb)⟩
  refine PySem.W.callWith_KW (h₀ := X.base) I.ok.mod.kin hk hall (thn (ha.run pos pins s σ H _ I h) fun us s1 ⟨vs, H1, I1, r, q⟩ => ?_) hpl he
  refine thn (hkw.run pos pins s1 σ H1 _ I1 q) fun ws s2 ⟨zs, H2, I2, rz, l1, l2, q2⟩ => ⟨I2.kIn, ?_⟩
  rw [hks]
  exact run_G G hgd hr hb I2 r rz l1 l2 q2
theorem pe_callKG0 (G : FnG X.prog X.w X.K X.mg X.base k f fd ps sp) (hgd : X.A.guards = some []) (hr : Room k X.A) (hm : X.mg x = some (.ref f)) (hk : PySem.W.keepIn X.K (.ref f) = true) (hb : KBG X.K fd ps 0 ks ix ds)
    (hkw : PK X kws tk) (hg : Gl X x) (hdb : (x == ("__debug__" : Str)) = false) (hall : (backToKw pos (keywordEach kws X.env)).all (·.1.isSome) = true) (hks : (backToKw pos (keywordEach kws X.env)).filterMap (·.1) = ks)
    (hpl : ((backTo pos (starEach [] X.env)).any (·.1) || (backToKw pos (keywordEach kws X.env)).any (·.1.isNone)) = false) :
    PE X (.Call (.Name x p) [] kws pos) (fun σ H Q => tk σ H fun zs H2 => zs.length = ks.length ∧ sp (pick ([] ++ zs) (ds.map flatOf) ix) H2 Q E) := by
  refine ⟨fun pins s σ H Q I h => wpAny_Call_Name_kw (ld_glob I hg hm ?_ hdb)⟩
  refine PySem.W.callWith_KW0 (h₀ := X.base) I.ok.mod.kin hk hall (thn (hkw.run pos pins s σ H _ I h) fun ws s2 ⟨zs, H2, I2, rz, l2, q2⟩ => ⟨I2.kIn, ?_⟩) hpl
  rw [hks]
  exact run_G G hgd hr hb I2 .nil rz rfl l2 q2
theorem callK_of {K : PySem.W.Frag} {Fs : List M → FOut} {σ : L2.St} {H : Hp} {Q : VK} {m : Nat} (fl : flatAll ds = true) (ok : okIx (n + m) ds.length ix = true) (t : tM K W bv (callM Fs (kwA n m ix ds fr frk)) σ H Q) :
    tR K W bv fr σ H fun vs H1 => tR K W bv frk σ H1 fun zs H2 => vs.length = n ∧ zs.length = m ∧ spF K Fs (pick (vs ++ zs) (ds.map flatOf) ix) H2 Q E0 := by
  unfold callM kwA at t
  rw [bnd_assoc] at t
  refine tG.mono (tG.bnd (r := rAR K σ) t) fun vs H1 ⟨as, e1, F1, fp1, S1, r1, q1⟩ => ?_
  rw [bnd_assoc] at q1
  refine tG.mono (AtG.bnd' (r := rAR K σ) S1 q1) fun zs H2 ⟨bs, e2, F2, fp2, s2, S2, r2, q2⟩ => ?_
  have t1 := two_ar (rAR_mono s2 r1)
  have t2 := two_ar r2
  by_cases hz : as.length = n ∧ bs.length = m
  · rw [if_pos hz] at q2
    refine ⟨t1.length.trans hz.1, t2.length.trans hz.2, ?_⟩
    have r3 : rAR K σ F2 (pick (vs ++ zs) (ds.map flatOf) ix) (pick (as ++ bs) (ds.map .d) ix) := ar_two ((t1.append t2).pick (two_flat fl) (by rw [List.length_append, t1.length, t2.length, hz.1, hz.2, List.length_map]; exact ok))
    exact call_at S2 r3 q2
  · rw [if_neg hz] at q2
    exact q2.elim
theorem dm_callK {Fs : List M → FOut} (G : FnG X.prog X.w X.K X.mg X.base k f fd ps (spF X.K Fs)) (hgd : X.A.guards = some []) (hr : Room k X.A) (hm : X.mg x = some (.ref f)) (hk : PySem.W.keepIn X.K (.ref f) = true) (hb : KBG X.K fd ps n ks ix ds)
    (ha : DR X W bv (a :: es) fr) (hkw : DK X W bv kws frk) (hg : Gl X x := by rfl) (hdb : (x == ("__debug__" : Str)) = false := by decide) (hall : (backToKw pos (keywordEach kws X.env)).all (·.1.isSome) = true := by rfl) (hks : (backToKw pos (keywordEach kws X.env)).filterMap (·.1) = ks := by rfl)
    (he : starEach (a :: es) X.env = (false, eval a X.env) :: starEach es X.env := by rfl) (hpl : ((backTo pos (starEach (a :: es) X.env)).any (·.1) || (backToKw pos (keywordEach kws X.env)).any (·.1.isNone)) = false := by rfl) :
    DM X W bv (.Call (.Name x p) (a :: es) kws pos) (callM Fs (kwA n ks.length ix ds fr frk)) :=
  pe_imp (pe_callKG (E := E0) G hgd hr hm hk hb ha hkw hg hdb hall hks he hpl) fun σ H Q t => callK_of hb.fl hb.ok t
theorem de_callK {Fs : List M → FOut} (G : FnG X.prog X.w X.K X.mg X.base k f fd ps (spF X.K Fs)) (hgd : X.A.guards = some []) (hr : Room k X.A) (hm : X.mg x = some (.ref f)) (hk : PySem.W.keepIn X.K (.ref f) = true) (hb : KBG X.K fd ps n ks ix ds)
    (ha : DR X W bv (a :: es) fr) (hkw : DK X W bv kws frk) (hg : Gl X x := by rfl) (hdb : (x == ("__debug__" : Str)) = false := by decide) (hall : (backToKw pos (keywordEach kws X.env)).all (·.1.isSome) = true := by rfl) (hks : (backToKw pos (keywordEach kws X.env)).filterMap (·.1) = ks := by rfl)
    (he : starEach (a :: es) X.env = (false, eval a X.env) :: starEach es X.env := by rfl) (hpl : ((backTo pos (starEach (a :: es) X.env)).any (·.1) || (backToKw pos (keywordEach kws X.env)).any (·.1.isNone)) = false := by rfl) :
    DE X W bv (.Call (.Name x p) (a :: es) kws pos) (callD Fs (kwA n ks.length ix ds fr frk)) := de_ofM (dm_callK G hgd hr hm hk hb ha hkw hg hdb hall hks he hpl)
theorem dm_callK0 {Fs : List M → FOut} (G : FnG X.prog X.w X.K X.mg X.base k f fd ps (spF X.K Fs)) (hgd : X.A.guards = some []) (hr : Room k X.A) (hm : X.mg x = some (.ref f)) (hk : PySem.W.keepIn X.K (.ref f) = true) (hb : KBG X.K fd ps 0 ks ix ds)
    (hkw : DK X W bv kws frk) (hg : Gl X x := by rfl) (hdb : (x == ("__debug__" : Str)) = false := by decide) (hall : (backToKw pos (keywordEach kws X.env)).all (·.1.isSome) = true := by rfl) (hks : (backToKw pos (keywordEach kws X.env)).filterMap (·.1) = ks := by rfl)
    (hpl : ((backTo pos (starEach [] X.env)).any (·.1) || (backToKw pos (keywordEach kws X.env)).any (·.1.isNone)) = false := by rfl) :
    DM X W bv (.Call (.Name x p) [] kws pos) (callM Fs (kwA 0 ks.length ix ds arN frk)) :=
  pe_imp (pe_callKG0 (E := E0) G hgd hr hm hk hb hkw hg hdb hall hks hpl) fun σ H Q t => by
    obtain ⟨e, F, fp, S, q⟩ := callK_of hb.fl hb.ok t
    exact tG.mono (AtG.here (r := rAR X.K σ) (x := []) S q trivial) fun zs H2 h => h.2
theorem de_callK0 {Fs : List M → FOut} (G : FnG X.prog X.w X.K X.mg X.base k f fd ps (spF X.K Fs)) (hgd : X.A.guards = some []) (hr : Room k X.A) (hm : X.mg x = some (.ref f)) (hk : PySem.W.keepIn X.K (.ref f) = true) (hb : KBG X.K fd ps 0 ks ix ds)
    (hkw : DK X W bv kws frk) (hg : Gl X x := by rfl) (hdb : (x == ("__debug__" : Str)) = false := by decide) (hall : (backToKw pos (keywordEach kws X.env)).all (·.1.isSome) = true := by rfl) (hks : (backToKw pos (keywordEach kws X.env)).filterMap (·.1) = ks := by rfl)
    (hpl : ((backTo pos (starEach [] X.env)).any (·.1) || (backToKw pos (keywordEach kws X.env)).any (·.1.isNone)) = false := by rfl) :
    DE X W bv (.Call (.Name x p) [] kws pos) (callD Fs (kwA 0 ks.length ix ds arN frk)) := de_ofM (dm_callK0 G hgd hr hm hk hb hkw hg hdb hall hks hpl)
end
end FD

/-! FD: d.get(k, x), o[k] = v, in, of what is owned or data. -/
namespace FD
open PySem L2
section
variable {X : Cx} {W : WX} {bv : Nat → Option V} {pos p px apos cpos : Pos} {a b c : Expr} {es : List Expr} {fa fb fc : EM D} {fs : EM (List D)} {x : Str}
/-! ### d.get(k, x) -/
theorem dx_get2 {pins : List (Addr × Obj)} {σ : L2.St} {H : Hp} {s : Shared} {a : Addr} {y d : V} {u r : Value} {o : Option V} {A : Around} {E : Value → Shared → Prop} {Q : Value → Shared → Prop} (hu : A.units + 1 < cLine) (I : Inv X pins σ H s) (g : DGetX H a y o) (ry : RelV y u) (rd : RelV d r)
    (h : ∀ w' s', Inv X pins σ H s' → RelV (o.getD d) w' → Q w' s') : wpAny (model X.prog X.w) A (call (.builtin "dict.get") [.ref a, u, r]) Q E s := by
  rcases g with g | ⟨rfl, e, b, k, rfl, eb⟩ | ⟨rfl, e, k, rfl⟩
  · exact d_get2 hu I g ry rd h
  · cases (show u = Value.ref b from ry)
    obtain ⟨hd, dd⟩ := emptyH I e
    exact call_meetsIn PySem.F.slot_dict_get dd.typeIs PySem.F.entry_dict_get (PySem.F.args_dict_get_3 _ _ _) (meetsH_dict_get_default (tupleKind (mixKind X.prog X.w)) a b hd r) ⟨tupleKind_room_in1 hu, k, [], key_of I.hok eb, dd, h _ _ (I.tok _) rd⟩
  · obtain ⟨hd, dd⟩ := emptyK I e
    exact call_meetsIn PySem.F.slot_dict_get dd.typeIs PySem.F.entry_dict_get (PySem.F.args_dict_get_3 _ _ _) (meets_dict_get_default (mixKind X.prog X.w) a (kV_is ry) hd r) ⟨_, dd.mapOf, h _ _ (I.tok _) rd⟩
def rGet2 : V → List V → Hp → VK → Prop := fun x xs H Q => ∃ a y z o, x = .ref a ∧ xs = [y, z] ∧ DGetX H a y o ∧ Q (o.getD z) H
/-- o.get(e, f) of what is a dict -/
theorem pe_get2 {td : TE} {ta : TA} {k : Nat} (hr : Room k X.A) (ho : PE X a td) (ha : PA X [b, c] ta) (m : M2 X a "get" apos b c cpos) (hs : starEach [b, c] X.env = (false, eval b X.env) :: starEach [c] X.env := by rfl) :
    PE X (.Call (.Attribute a "get" apos) [b, c] [] cpos) (fun σ H Q => td σ H fun x H1 => ∃ d, x = .ref d ∧ IsD H1 d ∧ ta σ H1 fun xs H2 => rGet2 x xs H2 Q) := by
  have hu : X.A.units + 1 < cLine := by have := hr.un; omega
  refine ⟨fun pins s σ H Q I h => ?_⟩
  refine wpAny_Call_method m.base m.few m.line PySem.F.plainAttrs_dict PySem.F.slot_dict_get PySem.F.type_dict_get (thn (ho.run pins s σ H _ I h) fun u s1 ⟨x, H1, I1, rx, d, ex, hd, q1⟩ => ?_)
  subst ex
  cases (show u = Value.ref d from rx)
  obtain ⟨t1, t2, _⟩ := isD_at I1 hd
  refine ⟨t1, t2, ?_⟩
  have hA := ha.run cpos pins s1 σ H1 _ I1 q1
  rw [m.trees] at hA ⊢
  refine Calls.callWith_builtin rfl (Calls.evalArgs_plain (thn hA fun us s2 hq => ?_))
  obtain ⟨xs, H2, I2, rs, a', y, z, o, e1, e2, g, q2⟩ := hq
  cases e1
  subst e2
  cases rs with
  | cons r1 rs =>
    cases rs with
    | cons r2 rs =>
      cases rs
      exact dx_get2 hu I2 g r1 r2 fun w' s3 I3 rw' => ⟨_, H2, I3, rw', q2⟩
def isDict : D → Bool
  | .dict _ => true
  | _ => false
def get2E (fa : EM D) (fs : EM (List D)) : EM D := bnd fa fun d => match d with
  | .dict kvs => bnd fs fun ys => lif (match ys with
    | [y, z] => (getDD kvs y).map fun o => o.getD z
    | _ => none)
  | _ => fun _ => .no
theorem Rp.isD {K : PySem.W.Frag} {F H : Hp} {v : V} {kvs : List (D × D)} (s : Sub F H) (r : Rp K F v (.dict kvs)) : ∃ a, v = .ref a ∧ IsD H a := by
  generalize hd : PyData.dict kvs = dd at r
  cases r with
  | dK h _ _ => exact ⟨_, rfl, .inl ⟨_, s.rd _ _ h⟩⟩
  | dT h _ _ => exact ⟨_, rfl, .inr ⟨_, s.rd _ _ h⟩⟩
  | _ => cases hd
theorem m2_of (base : attributeBase a "get" X.env (eval a X.env) = eval a X.env) (few : ((backTo cpos (starEach [b, c] X.env)).all (fun x => !x.1) && (backToKw cpos (keywordEach [] X.env)).all (fun x => x.1.isSome) && decide (([b, c] : List Expr).length + ([] : List Keyword).length + (if ([] : List Keyword).isEmpty then 0 else 1) < 30)) = true)
    (line : (apos.endLine == cpos.line) = true) (trees : backTo cpos (starEach [b, c] X.env) = [(false, eval b X.env), (false, eval c X.env)]) : M2 X a "get" apos b c cpos := ⟨base, few, line, trees⟩
theorem de_get2 {k : Nat} (hr : Room k X.A) (ho : DE X W bv a fa) (ha : DA X W bv [b, c] fs) (m : M2 X a "get" apos b c cpos) (hs : starEach [b, c] X.env = (false, eval b X.env) :: starEach [c] X.env := by rfl) : DE X W bv (.Call (.Attribute a "get" apos) [b, c] [] cpos) (get2E fa fs) :=
  pe_imp (pe_get2 hr ho ha m hs) fun σ H Q t => by
    refine tG.mono (tG.bnd (r := rD X.K) t) fun x H1 ⟨d, e1, F1, fp1, S1, r1, q1⟩ => ?_
    cases d with
    | dict kvs =>
      obtain ⟨p, rfl, hd⟩ := Rp.isD S1.sub r1
      refine ⟨p, rfl, hd, tG.mono (AtG.bnd' (r := rL X.K) S1 q1) fun xs H2 ⟨ys, e2, F2, fp2, s2, S2, r2, q2⟩ => ?_⟩
      obtain ⟨z, hz, q3⟩ := q2.lif
      split at hz
      · rename_i y zd
        obtain ⟨o, ho, rfl⟩ := Option.map_eq_some_iff.mp hz
        cases r2 with
        | cons ry r2 =>
          cases r2 with
          | cons rz r2 =>
            cases r2
            obtain ⟨p', ov, e1, g, hh⟩ := get_rp S2.sub (Rp.mono s2 r1) ry ho
            cases e1
            refine ⟨p, _, _, ov, rfl, rfl, g, ?_⟩
            rcases hh with ⟨rfl, rfl⟩ | ⟨d', w, rfl, rfl, rw'⟩
            · exact AtG.here (r := rD X.K) S2 q3 rz
            · exact AtG.here (r := rD X.K) S2 q3 rw'
      · cases hz
    | _ => exact q1.elim
/-- the same of an owned dict -/
def isDkt (i : Nat) (e : Env) : Bool := match e[i]? with
  | some (some (.dk _)) => true
  | some (some (.dt _)) => true
  | _ => false
def getM (i : Nat) (y z : D) (e : Env) : Option D := match e[i]? with
  | some (some (.dk kms)) => match kOf y with
    | some k => match lookK kms k with
      | some (.im d) => some d
      | none => some z
      | _ => none
    | none => none
  | some (some (.dt kms)) => match ksOf y with
    | some k => match lookK kms k with
      | some (.im d) => some d
      | none => some z
      | _ => none
    | none => none
  | _ => none
def pkGet (i : Nat) (fs : EM (List D)) : EM D := fun e => if isDkt i e then bnd fs (fun ys e => lif (match ys with
    | [y, z] => getM i y z e
    | _ => none) e) e else .no
theorem isDkt_at {K : PySem.W.Frag} {e : Env} {σ : L2.St} {F H : Hp} {fp : Nat → List Addr} {i : Nat} (S : SS K bv e σ F H fp) (h : isDkt i e = true) : ∃ a, σ[i]? = some (some (.ref a)) ∧ IsD H a := by
  unfold isDkt at h
  split at h
  · rename_i kms he
    obtain ⟨a, kvs, _, h1, h2, _⟩ := S.dkAt he
    exact ⟨a, h1, .inl ⟨kvs, .inl h2⟩⟩
  · rename_i kms he
    obtain ⟨a, kvs, _, h1, h2, _⟩ := S.dtAt he
    exact ⟨a, h1, .inr ⟨kvs, .inl h2⟩⟩
  · cases h
theorem getM_at {K : PySem.W.Frag} {e : Env} {σ : L2.St} {F H : Hp} {fp : Nat → List Addr} {i : Nat} {y z : V} {yd zd d : D} (S : SS K bv e σ F H fp) (ry : Rp K F y yd) (rz : Rp K F z zd) (h : getM i yd zd e = some d) :
    ∃ a o, σ[i]? = some (some (.ref a)) ∧ DGetX H a y o ∧ Rp K F (o.getD z) d := by
  unfold getM at h
  split at h
  · rename_i kms he
    obtain ⟨a, kvs, fpl, h1, h2, h3, h4, h5, h6⟩ := S.dkAt he
    split at h
    · rename_i k hk
      have ey := ry.key hk
      subst ey
      refine ⟨a, _, h1, .inl (DGet.k h2), ?_⟩
      rcases look_own (k := k) h4 h5 with ⟨e1, e2⟩ | ⟨v, m, l, e1, e2, o, _⟩
      · rw [e1] at h
        cases h
        rw [e2]
        exact rz
      · rw [e2] at h
        cases m with
        | im d' =>
          cases h
          cases o
          rw [e1]
          assumption
        | _ => cases h
    · cases h
  · rename_i kms he
    obtain ⟨a, kvs, fpl, h1, h2, h3, h4, h5, h6⟩ := S.dtAt he
    split at h
    · rename_i k hk
      obtain ⟨b, rfl, hb⟩ := ry.keyT hk
      refine ⟨a, _, h1, .inl (DGet.t h2 (S.sub.tp _ _ hb)), ?_⟩
      rcases look_own (k := k) h4 h5 with ⟨e1, e2⟩ | ⟨v, m, l, e1, e2, o, _⟩
      · rw [e1] at h
        cases h
        rw [e2]
        exact rz
      · rw [e2] at h
        cases m with
        | im d' =>
          cases h
          cases o
          rw [e1]
          assumption
        | _ => cases h
    · cases h
  · cases h
theorem de_getP (i : Nat) {k : Nat} (hr : Room k X.A) (ha : DA X W bv [b, c] fs) (m : M2 X (.Name x px) "get" apos b c cpos) (hN : X.N[i]? = some x := by rfl) (hv : Vis X.env.scope x := by first | exact Or.inl rfl | exact Or.inr (Or.inl rfl) | exact Or.inr (Or.inr rfl)) (hd : (x == ("__debug__" : Str)) = false := by decide) (hcd : (x == ("__classdict__" : Str)) = false := by decide)
    (hs : starEach [b, c] X.env = (false, eval b X.env) :: starEach [c] X.env := by rfl) : DE X W bv (.Call (.Attribute (.Name x px) "get" apos) [b, c] [] cpos) (pkGet i fs) :=
  pe_imp (pe_get2 hr (pe_var hN hv hd hcd) ha m hs) fun σ H Q ⟨e, F, fp, S, q⟩ => by
    unfold AtG pkGet at q
    by_cases hz : isDkt i e = true
    · rw [if_pos hz] at q
      obtain ⟨p, hp, hd'⟩ := isDkt_at S hz
      refine ⟨_, hp, p, rfl, hd', tG.mono (AtG.bnd' (r := rL X.K) S q) fun xs H2 ⟨ys, e2, F2, fp2, s2, S2, r2, q2⟩ => ?_⟩
      obtain ⟨z, hz, q3⟩ : ∃ d, (match ys with | [y, z] => getM i y z e2 | _ => none) = some d ∧ AtG X.K W bv (smp (rD X.K)) (ret d) e2 σ F2 H2 fp2 Q := by
        unfold AtG at q2
        dsimp only at q2
        generalize (match ys with | [y, z] => getM i y z e2 | _ => none) = oo at q2
        cases oo with
        | none => exact q2.elim
        | some d => exact ⟨d, rfl, q2⟩
      split at hz
      · rename_i y zd
        cases r2 with
        | cons ry r2 =>
          cases r2 with
          | cons rz r2 =>
            cases r2
            obtain ⟨p', o, g1, g2, g3⟩ := getM_at S2 ry rz hz
            rw [hp] at g1
            cases g1
            exact ⟨p, _, _, o, rfl, rfl, g2, AtG.here (r := rD X.K) S2 q3 g3⟩
      · cases hz
    · rw [if_neg hz] at q
      exact q.elim
/-! ### o[k] = v -/
def storeM (i : Nat) (k : D) (d : D) : EM Flow := fun e => match e[i]? with
  | some (some (.ls ms)) => match k with
    | .int k => match ixN ms.length k with
      | some j => match ms[j]? with
        | some (.im _) => .ok .nxt (e.set i (some (.ls (ms.set j (.im d)))))
        | _ => .no
      | none => .no
    | _ => .no
  | some (some (.dk kms)) => match kOf k with
    | some k => if few (kms.length + 1) && imK kms k then .ok .nxt (e.set i (some (.dk (putKK kms k (.im d))))) else .no
    | none => .no
  | some (some (.dt kms)) => match ksOf k with
    | some k => if few (kms.length + 1) && imK kms k then .ok .nxt (e.set i (some (.dt (putKK kms k (.im d))))) else .no
    | none => .no
  | _ => .no
def storeS (i : Nat) (fk fv : EM D) : EM Flow := bnd fv fun d => chk i (bnd fk fun k => storeM i k d)
def rSetA : TSet := fun o i v H Q => rSetL o i v H Q ∨ rSetD o i v H Q
theorem set_any {k : Nat} (hr : Room k X.A) : PSet X rSetA := by
  have hu : X.A.units + 1 < cLine := by have := hr.un; omega
  intro pins s σ H o i v ov iv u Q I ro ri rv h
  rcases h with h | h
  · exact set_list pins s σ H o i v ov iv u Q I ro ri rv h
  · exact set_dict hu pins s σ H o i v ov iv u Q I ro ri rv h
theorem ds_store (i : Nat) {tp : Pos} {k : Nat} (hr : Room k X.A) (hk : DE X W bv b fb) (hvl : DE X W bv a fa) (hN : X.N[i]? = some x := by rfl) (hv : Vis X.env.scope x := by first | exact Or.inl rfl | exact Or.inr (Or.inl rfl) | exact Or.inr (Or.inr rfl)) (hd : (x == ("__debug__" : Str)) = false := by decide) (hcd : (x == ("__classdict__" : Str)) = false := by decide)
    (ha : ∀ v, assign (.Subscript (.Name x px) b tp) X.env v = (do
      let ov ← holding [v] (eval (.Name x px) X.env)
      let iv ← holding [v, ov] (eval b X.env)
      standAt tp
      holding [v, ov, iv] (setItem ov iv v)
      release [v, ov, iv] []) := by intro _; rfl)
    (hs : swapsWithSole [.Subscript (.Name x px) b tp] a pos.line X.env = pure false := by rfl) (hw : swappedStores [.Subscript (.Name x px) b tp] a X.env = pure none := by rfl)
    (h1 : (assignEach [.Subscript (.Name x px) b tp] X.env).map (·.2) = [assign (.Subscript (.Name x px) b tp) X.env] := by rfl) :
    DS X W bv (.Assign [.Subscript (.Name x px) b tp] a pos) (storeS i fb fa) :=
  ps_imp (ps_asg hvl (pg_sub (pe_var hN hv hd hcd) hk (set_any hr) ha) hs hw h1) fun D σ H ⟨e, F, fp, S, q⟩ => by
    refine tG.mono (AtS.bnd' (r := rD X.K) S q) fun v H1 ⟨d, e1, F1, fp1, _, _, S1, r1, q1⟩ => ?_
    obtain ⟨w, hw, _⟩ := chk_S (⟨e1, F1, fp1, S1, q1⟩ : tS X.K W bv _ D σ H1)
    refine ⟨w, hw, ?_⟩
    have q2 : AtS X.K W bv (bnd fb fun k => storeM i k d) e1 σ F1 H1 fp1 D := by
      unfold AtS chk at q1
      cases hh : has i e1 with
      | true => rw [hh] at q1; exact q1
      | false => rw [hh] at q1; exact q1.elim
    refine tG.mono (AtS.bnd' (r := rD X.K) S1 q2) fun y H2 ⟨kd, e2, F2, fp2, s2, _, S2, r2, q3⟩ => ?_
    unfold AtS storeM at q3
    split at q3
    · rename_i ms he
      split at q3
      · rename_i kk
        cases r2
        split at q3
        · rename_i j hj
          split at q3
          · rename_i d0 hd0
            obtain ⟨a1, vs1, fpl1, g1, g2, g3, g4, g5⟩ := S2.lsAt he
            rw [hw] at g1
            cases g1
            obtain ⟨S3, s3⟩ := S2.upH (m := .ls (ms.set j (.im d))) (List.getElem?_eq_some_iff.mp he).1 hw g3 (.ls upd_same ((g4.set (Rp.mono s2 r1) hd0).other g5))
            exact .inl ⟨a1, vs1, kk, j, rfl, rfl, g2, by rw [g4.length]; exact hj, q3 σ F2 _ fp2 s3 S3⟩
          · exact q3.elim
        · exact q3.elim
      · exact q3.elim
    · rename_i kms he
      split at q3
      · rename_i kk hkk
        split at q3
        · rename_i hz
          rw [Bool.and_eq_true] at hz
          have ey := Rp.key r2 hkk
          subst ey
          obtain ⟨a1, kvs, fpl1, g1, g2, g3, g4, g5, g6⟩ := S2.dkAt he
          rw [hw] at g1
          cases g1
          obtain ⟨p1, p2⟩ := put_own (Rp.mono s2 r1) g4 g5 hz.2
          obtain ⟨S3, s3⟩ := S2.upH (m := .dk (putKK kms kk (.im d))) (List.getElem?_eq_some_iff.mp he).1 hw g3 (.dk upd_same p1 (p2.other g6))
          have hl : kvs.length = kms.length := by simpa using congrArg List.length g4
          exact .inr ⟨a1, _, rfl, DPut.k g2 (by have := few_le hz.1; omega), q3 σ F2 _ fp2 s3 S3⟩
        · exact q3.elim
      · exact q3.elim
    · rename_i kms he
      split at q3
      · rename_i kk hkk
        split at q3
        · rename_i hz
          rw [Bool.and_eq_true] at hz
          obtain ⟨kb, rfl, hkb⟩ := Rp.keyT r2 hkk
          obtain ⟨a1, kvs, fpl1, g1, g2, g3, g4, g5, g6⟩ := S2.dtAt he
          rw [hw] at g1
          cases g1
          obtain ⟨p1, p2⟩ := put_own (Rp.mono s2 r1) g4 g5 hz.2
          obtain ⟨S3, s3⟩ := S2.upH (m := .dt (putKK kms kk (.im d))) (List.getElem?_eq_some_iff.mp he).1 hw g3 (.dt upd_same p1 (p2.other g6))
          have hl : kvs.length = kms.length := by simpa using congrArg List.length g4
          exact .inr ⟨a1, _, rfl, DPut.t g2 (S2.sub.tp _ _ hkb) (by have := few_le hz.1; omega), q3 σ F2 _ fp2 s3 S3⟩
        · exact q3.elim
      · exact q3.elim
    · exact q3.elim
/-! ### in, of what is owned -/
def inPD (d1 d2 : D) : Option D := match d2 with
  | .dict _ => inDD false d1 d2
  | _ => inLD d1 d2
def ninPD (d1 d2 : D) : Option D := match d2 with
  | .dict _ => inDD true d1 d2
  | _ => ninLD d1 d2
theorem opp_cases {K : PySem.W.Frag} {r r' : R2} {g g' h : D → D → Option D} (h1 : OpP K r g) (h2 : OpP K r' g') (hh : ∀ x y, h x y = g x y ∨ h x y = g' x y) : OpP K (fun x y H Q => r x y H Q ∨ r' x y H Q) h := by
  intro F H x y d1 d2 d Q s r1 r2 q
  rcases hh d1 d2 with e1 | e1
  · rw [e1] at q
    obtain ⟨f, k⟩ := h1 F H x y d1 d2 d Q s r1 r2 q
    exact ⟨f, fun z => .inl (k z)⟩
  · rw [e1] at q
    obtain ⟨f, k⟩ := h2 F H x y d1 d2 d Q s r1 r2 q
    exact ⟨f, fun z => .inr (k z)⟩
theorem de_inPA (i : Nat) {k : Nat} (hr : Room k X.A) (ha : DE X W bv a fa) (hN : X.N[i]? = some x := by rfl) (hv : Vis X.env.scope x := by first | exact Or.inl rfl | exact Or.inr (Or.inl rfl) | exact Or.inr (Or.inr rfl)) (hd : (x == ("__debug__" : Str)) = false := by decide) (hcd : (x == ("__classdict__" : Str)) = false := by decide)
    (hm : behindInMarks .In (.Name x px) = false := by first | exact nomark _ | rfl) : DE X W bv (.Compare a [.In] [.Name x px] pos) (pkR i inPD fa) :=
  pe_imp (pe_cmpR (OpR.or (or_in hr) (or_din hr false)) ha (pe_var hN hv hd hcd) hm) fun σ H Q t => pkR_of (opp_cases inL_P in_dP fun x y => by unfold inPD; split <;> first | exact .inr rfl | exact .inl rfl) t
theorem de_ninPA (i : Nat) {k : Nat} (hr : Room k X.A) (ha : DE X W bv a fa) (hN : X.N[i]? = some x := by rfl) (hv : Vis X.env.scope x := by first | exact Or.inl rfl | exact Or.inr (Or.inl rfl) | exact Or.inr (Or.inr rfl)) (hd : (x == ("__debug__" : Str)) = false := by decide) (hcd : (x == ("__classdict__" : Str)) = false := by decide)
    (hm : behindInMarks .NotIn (.Name x px) = false := by first | exact nomark _ | rfl) : DE X W bv (.Compare a [.NotIn] [.Name x px] pos) (pkR i ninPD fa) :=
  pe_imp (pe_cmpR (OpR.or (or_nin hr) (or_din hr true)) ha (pe_var hN hv hd hcd) hm) fun σ H Q t => pkR_of (opp_cases ninL_P in_dP fun x y => by unfold ninPD; split <;> first | exact .inr rfl | exact .inl rfl) t
end
end FD

/-! FD: tests on what is owned; what a generator's terms stand on: names of the module, its defs. -/
namespace FD
open PySem L2
section
variable {X : Cx} {W : WX} {bv : Nat → Option V} {pos p px apos cpos : Pos} {a b c : Expr} {es : List Expr} {fa fb fc : EM D} {fs : EM (List D)} {x : Str}
theorem dt_eqP (i : Nat) {k : Nat} (hr : Room k X.A) (hb : DE X W bv b fb) (hN : X.N[i]? = some x := by rfl) (hv : Vis X.env.scope x := by first | exact Or.inl rfl | exact Or.inr (Or.inl rfl) | exact Or.inr (Or.inr rfl)) (hd : (x == ("__debug__" : Str)) = false := by decide) (hcd : (x == ("__classdict__" : Str)) = false := by decide) :
    DT X W bv (.Compare (.Name x px) [.Eq] [b] pos) (tst (pkL i eqD fb)) :=
  pt_imp (pt_cmpR (OpR.or op_eq (op_eqD hr.units)) (pe_var hN hv hd hcd) hb (by first | exact nomark _ | rfl)) fun σ H Q t => pkL_of op_eqP (tst_of t)
theorem dt_neP (i : Nat) {k : Nat} (hr : Room k X.A) (hb : DE X W bv b fb) (hN : X.N[i]? = some x := by rfl) (hv : Vis X.env.scope x := by first | exact Or.inl rfl | exact Or.inr (Or.inl rfl) | exact Or.inr (Or.inr rfl)) (hd : (x == ("__debug__" : Str)) = false := by decide) (hcd : (x == ("__classdict__" : Str)) = false := by decide) :
    DT X W bv (.Compare (.Name x px) [.NotEq] [b] pos) (tst (pkL i neD fb)) :=
  pt_imp (pt_cmpR (OpR.or op_ne (op_neD hr.units)) (pe_var hN hv hd hcd) hb (by first | exact nomark _ | rfl)) fun σ H Q t => pkL_of op_neP (tst_of t)
theorem dt_inPA (i : Nat) {k : Nat} (hr : Room k X.A) (ha : DE X W bv a fa) (hN : X.N[i]? = some x := by rfl) (hv : Vis X.env.scope x := by first | exact Or.inl rfl | exact Or.inr (Or.inl rfl) | exact Or.inr (Or.inr rfl)) (hd : (x == ("__debug__" : Str)) = false := by decide) (hcd : (x == ("__classdict__" : Str)) = false := by decide)
    (hm : behindInMarks .In (.Name x px) = false := by first | exact nomark _ | rfl) : DT X W bv (.Compare a [.In] [.Name x px] pos) (tst (pkR i inPD fa)) :=
  pt_imp (pt_cmpR (OpR.or (or_in hr) (or_din hr false)) ha (pe_var hN hv hd hcd) hm) fun σ H Q t => pkR_of (opp_cases inL_P in_dP fun x y => by unfold inPD; split <;> first | exact .inr rfl | exact .inl rfl) (tst_of t)
theorem dt_ninPA (i : Nat) {k : Nat} (hr : Room k X.A) (ha : DE X W bv a fa) (hN : X.N[i]? = some x := by rfl) (hv : Vis X.env.scope x := by first | exact Or.inl rfl | exact Or.inr (Or.inl rfl) | exact Or.inr (Or.inr rfl)) (hd : (x == ("__debug__" : Str)) = false := by decide) (hcd : (x == ("__classdict__" : Str)) = false := by decide)
    (hm : behindInMarks .NotIn (.Name x px) = false := by first | exact nomark _ | rfl) : DT X W bv (.Compare a [.NotIn] [.Name x px] pos) (tst (pkR i ninPD fa)) :=
  pt_imp (pt_cmpR (OpR.or (or_nin hr) (or_din hr true)) ha (pe_var hN hv hd hcd) hm) fun σ H Q t => pkR_of (opp_cases ninL_P in_dP fun x y => by unfold ninPD; split <;> first | exact .inr rfl | exact .inl rfl) (tst_of t)
/-! ### names of the module -/
def Con (mg : Str → Option Value) (x : Str) (d : D) : Prop := flatD d = true ∧ ∃ u, mg x = some u ∧ RelV (flatOf d) u
theorem de_con {d : D} (h : Con X.mg x d) (hg : Gl X x := by rfl) (hd : (x == ("__debug__" : Str)) = false := by decide) : DE X W bv (.Name x pos) (ret d) := by
  obtain ⟨f, u, hm, r⟩ := h
  exact de_glob f hm r hg hd
end
section
variable (P : Program) (w : World) (K : PySem.W.Frag) (mg : Str → Option Value) (base : Heap)
/-- the name x is a def that does what Fs says, called by place -/
def Has (k : Nat) (x : Str) (ps : List Str) (Fs : List M → FOut) : Prop := ∃ f fd, FnG P w K mg base k f fd ps (spF K Fs) ∧ mg x = some (.ref f) ∧ PySem.W.keepIn K (.ref f) = true ∧ Binds K fd ps []
/-- the same, called with n values by place and the keywords ks -/
def HasK (k : Nat) (x : Str) (ps : List Str) (Fs : List M → FOut) (n : Nat) (ks : List Str) (ix : List (Nat ⊕ Nat)) (ds : List D) : Prop := ∃ f fd, FnG P w K mg base k f fd ps (spF K Fs) ∧ mg x = some (.ref f) ∧ PySem.W.keepIn K (.ref f) = true ∧ KBG K fd ps n ks ix ds
def FunAt (x : Str) (st : Stmt) : Prop := ∃ f fd, Fun K x x st f fd ∧ mg x = some (.ref f)
def FunDAt (x : Str) (st : Stmt) (kws : List (Str × V)) : Prop := ∃ f fd, FunD K x x (defArgs st) (defBody st) (defScope st) [] kws f fd ∧ mg x = some (.ref f)
end
section
variable {X : Cx} {W : WX} {bv : Nat → Option V} {pos p : Pos} {a : Expr} {es : List Expr} {fr frk : EM (List AR)} {kws : List Keyword} {x : Str} {k n m : Nat} {ps ks : List Str} {Fs : List M → FOut} {ix : List (Nat ⊕ Nat)} {ds : List D}
theorem dm_callH (h : Has X.prog X.w X.K X.mg X.base k x ps Fs) (hgd : X.A.guards = some []) (hr : Room k X.A) (ha : DR X W bv (a :: es) fr) (hg : Gl X x := by rfl) (hdb : (x == ("__debug__" : Str)) = false := by decide) (he : starEach (a :: es) X.env = (false, eval a X.env) :: starEach es X.env := by rfl) (hpl : (backTo pos (starEach es X.env)).any (·.1) = false := by rfl) :
    DM X W bv (.Call (.Name x p) (a :: es) [] pos) (callM Fs fr) := by
  obtain ⟨f, fd, G, hm, hk, hb⟩ := h
  exact dm_call G hgd hr hm hk hb ha hg hdb he hpl
theorem de_callH (h : Has X.prog X.w X.K X.mg X.base k x ps Fs) (hgd : X.A.guards = some []) (hr : Room k X.A) (ha : DR X W bv (a :: es) fr) (hg : Gl X x := by rfl) (hdb : (x == ("__debug__" : Str)) = false := by decide) (he : starEach (a :: es) X.env = (false, eval a X.env) :: starEach es X.env := by rfl) (hpl : (backTo pos (starEach es X.env)).any (·.1) = false := by rfl) :
    DE X W bv (.Call (.Name x p) (a :: es) [] pos) (callD Fs fr) := by
  obtain ⟨f, fd, G, hm, hk, hb⟩ := h
  exact de_call G hgd hr hm hk hb ha hg hdb he hpl
theorem de_callH0 (h : Has X.prog X.w X.K X.mg X.base k x ps Fs) (hgd : X.A.guards = some []) (hr : Room k X.A) (hg : Gl X x := by rfl) (hdb : (x == ("__debug__" : Str)) = false := by decide) : DE X W bv (.Call (.Name x p) [] [] pos) (callD Fs arN) := by
  obtain ⟨f, fd, G, hm, hk, hb⟩ := h
  exact de_call0 G hgd hr hm hk hb hg hdb
theorem de_callHK (h : HasK X.prog X.w X.K X.mg X.base k x ps Fs n ks ix ds) (hgd : X.A.guards = some []) (hr : Room k X.A) (ha : DR X W bv (a :: es) fr) (hkw : DK X W bv kws frk) (hg : Gl X x := by rfl) (hdb : (x == ("__debug__" : Str)) = false := by decide) (hall : (backToKw pos (keywordEach kws X.env)).all (·.1.isSome) = true := by rfl) (hks : (backToKw pos (keywordEach kws X.env)).filterMap (·.1) = ks := by rfl) (hml : ks.length = m := by rfl)
    (he : starEach (a :: es) X.env = (false, eval a X.env) :: starEach es X.env := by rfl) (hpl : ((backTo pos (starEach (a :: es) X.env)).any (·.1) || (backToKw pos (keywordEach kws X.env)).any (·.1.isNone)) = false := by rfl) :
    DE X W bv (.Call (.Name x p) (a :: es) kws pos) (callD Fs (kwA n m ix ds fr frk)) := by
  subst hml
  obtain ⟨f, fd, G, hm, hk, hb⟩ := h
  exact de_callK G hgd hr hm hk hb ha hkw hg hdb hall hks he hpl
theorem de_callHK0 (h : HasK X.prog X.w X.K X.mg X.base k x ps Fs 0 ks ix ds) (hgd : X.A.guards = some []) (hr : Room k X.A) (hkw : DK X W bv kws frk) (hg : Gl X x := by rfl) (hdb : (x == ("__debug__" : Str)) = false := by decide) (hall : (backToKw pos (keywordEach kws X.env)).all (·.1.isSome) = true := by rfl) (hks : (backToKw pos (keywordEach kws X.env)).filterMap (·.1) = ks := by rfl) (hml : ks.length = m := by rfl)
    (hpl : ((backTo pos (starEach [] X.env)).any (·.1) || (backToKw pos (keywordEach kws X.env)).any (·.1.isNone)) = false := by rfl) :
    DE X W bv (.Call (.Name x p) [] kws pos) (callD Fs (kwA 0 m ix ds arN frk)) := by
  subst hml
  obtain ⟨f, fd, G, hm, hk, hb⟩ := h
  exact de_callK0 G hgd hr hm hk hb hkw hg hdb hall hks hpl
end
section
variable {P : Program} {w : World} {K : PySem.W.Frag} {mg : Str → Option Value} {base : Heap} {x : Str} {st : Stmt} {k : Nat} {N ps : List Str} {B : List Nat} {g : EM Flow}
/-- the derivation of a def's body -/
def Body (P : Program) (w : World) (K : PySem.W.Frag) (mg : Str → Option Value) (base : Heap) (k : Nat) (x : Str) (st : Stmt) (N : List Str) (B : List Nat) (g : EM Flow) : Prop := ∀ (f : Addr) (cdv : Value) (A : Around) (outer : List PySem.Env) (s : Shared) (H : Hp) (vs : List V) (E : XK), (A.deeper (PyProof.Rows.envOfC x (defScope st) s.heap.objs.size f cdv)).guards = some [] →
  Room k (A.deeper (PyProof.Rows.envOfC x (defScope st) s.heap.objs.size f cdv)) → DSs (cxOf CX0 P w K mg base N x (defScope st) f cdv A outer s H E).nox W0 (bvB B vs) (defBody st) g
theorem has_of (Fn : FunAt K mg x st) (Sc : FnScope N ps (defScope st)) (hb : Body P w K mg base k x st N B g)
    (bi : ∀ (kV doc pm : Value) (an : Option Addr) (cdv ct : Value) (us : List Value), us.length = ps.length → bindArgs (PySem.W.fnOf x x (defArgs st) (defBody st) (defScope st) .none kV doc pm an cdv ct) ⟨us, []⟩ = pure (ps.zip us)) : Has P w K mg base (k + 1) x ps (defF ps.length N.length B g) := by
  obtain ⟨f, fd, Fn, hm⟩ := Fn
  exact ⟨f, fd, fn_F Fn Sc fun cdv A outer s H vs E hg hr => hb f cdv A outer s H vs E hg hr, hm, Fn.kp, Fn.binds bi⟩
theorem hasK_of {n : Nat} {ks : List Str} {ix : List (Nat ⊕ Nat)} (Fn : FunAt K mg x st) (Sc : FnScope N ps (defScope st)) (hb : Body P w K mg base k x st N B g) (ok : okIx (n + ks.length) 0 ix = true)
    (bi : ∀ (kV doc pm : Value) (an : Option Addr) (cdv ct : Value) (us ws : List Value), us.length = n → ws.length = ks.length → bindArgs (PySem.W.fnOf x x (defArgs st) (defBody st) (defScope st) .none kV doc pm an cdv ct) ⟨us, ks.zip ws⟩ = pure (ps.zip (pick (us ++ ws) [] ix))) : HasK P w K mg base (k + 1) x ps (defF ps.length N.length B g) n ks ix [] := by
  obtain ⟨f, fd, Fn, hm⟩ := Fn
  exact ⟨f, fd, fn_F Fn Sc fun cdv A outer s H vs E hg hr => hb f cdv A outer s H vs E hg hr, hm, Fn.kp, kb_plain Fn n ks ix ok bi⟩
theorem hasD_of {n : Nat} {ks : List Str} {ix : List (Nat ⊕ Nat)} {kws : List (Str × V)} {ms : List (Str × D)} (Fn : FunDAt K mg x st kws) (Sc : FnScope N ps (defScope st)) (hb : Body P w K mg base k x st N B g) (hk : kws ≠ []) (hms : ∀ q ∈ ms, (q.1, flatOf q.2) ∈ kws) (fl : flatAll (ms.map (·.2)) = true) (ok : okIx (n + ks.length) ms.length ix = true)
    (h : ∀ (D : Addr) (doc pm : Value) (an : Option Addr) (cdv ct : Value) (us ws mv : List Value), us.length = n → ws.length = ks.length → mv.length = ms.length →
      KwChain D ((ms.map (·.1)).zip mv) (bindArgs (PySem.W.fnOf x x (defArgs st) (defBody st) (defScope st) .none (.ref D) doc pm an cdv ct) ⟨us, ks.zip ws⟩) (ps.zip (pick (us ++ ws) mv ix))) : HasK P w K mg base (k + 1) x ps (defF ps.length N.length B g) n ks ix (ms.map (·.2)) := by
  obtain ⟨f, fd, Fn, hm⟩ := Fn
  exact ⟨f, fd, fn_F (Fun.of_D Fn) Sc fun cdv A outer s H vs E hg hr => hb f cdv A outer s H vs E hg hr, hm, Fn.kp, kb_kw Fn n ks ix ms hk hms fl ok h⟩
end
/-- the law's own call -/
theorem law_hs {g : List M → FOut} {n : Nat} (h : ∀ ns : List Int, ns.length ≤ n → ∃ ms', g [.im (.list (ns.map .int))] = .ok (.im (.bool true)) ms') (K : PySem.W.Frag) (H : Hp) (a : Addr) (ns : List Int) (hl : ns.length ≤ n) (hs : SqL K H a (ns.map V.int)) : spF K g [.ref a] H (fun v _ => v = .bl true) fun _ _ _ => False := by
  obtain ⟨ms', e⟩ := h ns hl
  have rl : RpL K H (ns.map V.int) (ns.map .int) := by
    induction ns with
    | nil => exact .nil
    | cons i r ih => exact .cons (.int i) (by
        clear ih e hs hl
        induction r with
        | nil => exact .nil
        | cons j r ih => exact .cons (.int j) ih)
  refine ⟨[.im (.list (ns.map .int))], H, fun _ => [], ⟨Sub.refl H, fun i m hm => ?_, (fun i a h => by cases h), (fun _ => List.nodup_nil), (fun _ _ _ h => by cases h), (fun _ _ h => by cases h), (fun _ _ h => by cases h), rfl⟩, ?_⟩
  · cases i with
    | zero =>
      simp at hm
      subst hm
      exact ⟨_, rfl, .im (.lst hs rl)⟩
    | succ i => simp at hm
  · rw [e]
    intro v F' H' fp' P' s' S' ⟨fpr, hP, o, _⟩
    cases o with
    | im r => cases r; rfl
end FD

/-! FD: a dict walked key by key: from then on nobody changes it. -/
namespace FD
open PySem L2
/-- the keys of a dict that is known to the object from now on -/
def iKeysF (td : TE) : TI := fun σ H R => td σ H fun x H1 => ∃ d, x = .ref d ∧
  ((∃ kvs, H1 d = some (.dT kvs) ∧ ∀ od, R (Itkt d od kvs) (upd H1 d (.frz od (.dT kvs)))) ∨ (∃ od kvs, H1 d = some (.frz od (.dT kvs)) ∧ R (Itkt d od kvs) H1) ∨
   (∃ kvs, H1 d = some (.dK kvs) ∧ ∀ od, R (Itk d od kvs) (upd H1 d (.frz od (.dK kvs)))) ∨ ∃ od kvs, H1 d = some (.frz od (.dK kvs)) ∧ R (Itk d od kvs) H1)
section
variable {X : Cx} {tg e : Expr} {td : TE}
theorem pi_keysF (he : PE X e td) : PI X tg e (iKeysF td) := by
  refine ⟨fun pins s σ H R I h => ?_⟩
  refine thn (he.run pins s σ H _ I h) fun u s1 ⟨x, H1, I1, rx, d, ex, q⟩ => ?_
  subst ex
  obtain rfl : u = Value.ref d := rx
  rcases q with ⟨kvs, hd, q⟩ | ⟨o, kvs, hd, q⟩ | ⟨kvs, hd, q⟩ | ⟨o, kvs, hd, q⟩
  · obtain ⟨od, I2⟩ := I1.lock hd trivial
    obtain ⟨hs, hgd, hx, es, ep, hdt, hsz, ent⟩ := I2.frzT upd_same
    refine iter_keys hs hgd hx hdt (pi_one (tk := s1.toks) I2 _ (turn_keysT _ hdt) ⟨_, Heap.get?_push_size _ rfl, rfl, ?_⟩ (q od))
    rw [hsz] <;> rfl
  · obtain ⟨hs, hgd, hx, es, ep, hdt, hsz, ent⟩ := I1.frzT hd
    refine iter_keys hs hgd hx hdt (pi_one (tk := s1.toks) I1 _ (turn_keysT _ hdt) ⟨_, Heap.get?_push_size _ rfl, rfl, ?_⟩ q)
    rw [hsz] <;> rfl
  · obtain ⟨od, I2⟩ := I1.lock hd trivial
    obtain ⟨hs, hgd, hx, es, ep, vs, hdt, hsz, kv, hm⟩ := I2.frzK upd_same
    refine iter_keys hs hgd hx hdt (pi_one (tk := s1.toks) I2 _ (turn_keys _ hdt) ⟨_, Heap.get?_push_size _ rfl, rfl, ?_⟩ (q od))
    rw [hsz] <;> rfl
  · obtain ⟨hs, hgd, hx, es, ep, vs, hdt, hsz, kv, hm⟩ := I1.frzK hd
    refine iter_keys hs hgd hx hdt (pi_one (tk := s1.toks) I1 _ (turn_keys _ hdt) ⟨_, Heap.get?_push_size _ rfl, rfl, ?_⟩ q)
    rw [hsz] <;> rfl
end
/-! ### what F knows of it is that it is known -/
section
variable {F H : Hp} {d : Addr} {u : HO}
/-- F told plain, H plain: both locked -/
theorem lock_sub {od : Obj} (s : Sub F H) (hF : Rd F d u) (hH : H d = some u) (nt : ∀ vs, u ≠ .tup vs) (nz : ∀ o w, u ≠ .frz o w) : Sub F (upd F d (.frz od u)) ∧ Sub (upd F d (.frz od u)) (upd H d (.frz od u)) := by
  have fd : F d = some u := by
    rcases hF with z | ⟨o, z⟩
    · exact z
    · have := s.fz _ _ _ z
      rw [hH] at this
      cases this
  refine ⟨⟨fun a w r => ?_, fun a ws q => ?_, fun a ob w q => ?_⟩, s.both⟩
  · by_cases e : a = d
    · subst e
      rcases r with r | ⟨o, r⟩
      · rw [fd] at r; cases r; exact .inr ⟨_, upd_same⟩
      · rw [fd] at r; cases r; exact absurd rfl (nz _ _)
    · exact rd_at (upd_ne e) r
  · by_cases e : a = d
    · subst e
      rw [fd] at q; cases q; exact absurd rfl (nt _)
    · rw [upd_ne e]; exact q
  · by_cases e : a = d
    · subst e
      rw [fd] at q; cases q; exact absurd rfl (nz _ _)
    · rw [upd_ne e]; exact q
/-- H known already -/
theorem know_sub {od : Obj} (s : Sub F H) (hF : Rd F d u) (hH : H d = some (.frz od u)) (nt : ∀ vs, u ≠ .tup vs) (nz : ∀ o w, u ≠ .frz o w) : Sub F (upd F d (.frz od u)) ∧ Sub (upd F d (.frz od u)) H := by
  have ru : ∀ w, Rd (upd F d (.frz od u)) d w → Rd H d w := fun w r => rd_at (by rw [hH, upd_same]) r
  refine ⟨⟨fun a w r => ?_, fun a ws q => ?_, fun a ob w q => ?_⟩, ⟨fun a w r => ?_, fun a ws q => ?_, fun a ob w q => ?_⟩⟩
  · by_cases e : a = d
    · subst e
      exact rd_at (by rw [hH, upd_same]) (s.rd _ _ r)
    · exact rd_at (upd_ne e) r
  · by_cases e : a = d
    · subst e
      have := s.tp _ _ q
      rw [hH] at this; cases this
    · rw [upd_ne e]; exact q
  · by_cases e : a = d
    · subst e
      have := s.fz _ _ _ q
      rw [hH] at this; cases this; exact upd_same
    · rw [upd_ne e]; exact q
  · by_cases e : a = d
    · subst e; exact ru w r
    · exact s.rd a w (rd_at (upd_ne e).symm r)
  · by_cases e : a = d
    · subst e; rw [upd_same] at q; cases q
    · rw [upd_ne e] at q; exact s.tp a ws q
  · by_cases e : a = d
    · subst e; rw [upd_same] at q; rw [hH]; exact q
    · rw [upd_ne e] at q; exact s.fz a ob w q
end
/-- a dict known from now on: the state -/
theorem SS.known {K : PySem.W.Frag} {bv : Nat → Option V} {e : Env} {σ : L2.St} {F H : Hp} {fp : Nat → List Addr} {d : Addr} {u : HO} (S : SS K bv e σ F H fp) (hF : Rd F d u) (nt : ∀ vs, u ≠ .tup vs) (nz : ∀ o w, u ≠ .frz o w) :
    (H d = some u ∧ ∀ od, Stp F H (Pf fp) (upd F d (.frz od u)) (upd H d (.frz od u)) (Pf fp) ∧ SS K bv e σ (upd F d (.frz od u)) (upd H d (.frz od u)) fp) ∨
    ∃ od, H d = some (.frz od u) ∧ Stp F H (Pf fp) (upd F d (.frz od u)) H (Pf fp) ∧ SS K bv e σ (upd F d (.frz od u)) H fp := by
  have fn : F d ≠ none := fun z => by
    rcases hF with q | ⟨_, q⟩ <;> rw [z] at q <;> cases q
  have off : ∀ i a, a ∈ fp i → a ≠ d := fun i a h z => fn (by rw [← z]; exact S.fr i a h)
  have newF : ∀ od a, upd F d (.frz od u) a ≠ none → F a ≠ none ∨ Pf fp a ∨ Nw H a := fun od a h => by
    by_cases e : a = d
    · subst e; exact .inl fn
    · rw [upd_ne e] at h; exact .inl h
  rcases S.sub.rd d u hF with hH | ⟨od, hH⟩
  · refine .inl ⟨hH, fun od => ?_⟩
    obtain ⟨s1, s2⟩ := lock_sub (od := od) S.sub hF hH nt nz
    refine ⟨⟨s1, fun a o h n f => ?_, fun a h => ?_, newF od, fun _ h => .inl h⟩, S.heap s1 s2 (fun i a o h q => ?_) fun i a h => ?_⟩
    · by_cases e : a = d
      · subst e
        rcases f with f | ⟨vs, f⟩
        · exact absurd f fn
        · rw [hH] at h; cases h; exact absurd f (nt vs)
      · rw [upd_ne e]; exact h
    · by_cases e : a = d
      · subst e; rw [upd_same] at h; cases h
      · rw [upd_ne e] at h; exact h
    · rw [upd_ne (off i a h)]; exact q
    · rw [upd_ne (off i a h)]; exact S.fr i a h
  · obtain ⟨s1, s2⟩ := know_sub (od := od) S.sub hF hH nt nz
    refine .inr ⟨od, hH, ⟨s1, fun _ _ h _ _ => h, fun _ h => h, newF od, fun _ h => .inl h⟩, S.heap s1 s2 (fun _ _ _ _ q => q) fun i a h => ?_⟩
    rw [upd_ne (off i a h)]; exact S.fr i a h
def itK : D → Option (List D)
  | .dict kvs => some (kvs.map (·.1))
  | _ => none
theorem kV_rp {K : PySem.W.Frag} {F : Hp} : ∀ k : Key, Rp K F (kV k) (keyD k)
  | .inl i => .int i
  | .inr x => .str x
theorem kVs_rp {K : PySem.W.Frag} {F : Hp} : ∀ ks : List Key, RpL K F (ks.map kV) (ks.map keyD)
  | [] => .nil
  | k :: ks => .cons (kV_rp k) (kVs_rp ks)
theorem walks_keysT {K : PySem.W.Frag} {F : Hp} {d : Addr} {od : Obj} {kvs : List (List Key × V)} {kds : List (List Key × D)} (hF : F d = some (.frz od (.dT kvs))) (hk : kvs.map (·.1) = kds.map (·.1)) :
    WalksD K (Itkt d od kvs) F ((kds.map fun p => (PyData.tuple (p.1.map keyD), p.2)).map (·.1)) := fun F' H i s1 s2 => by
  have hl : kvs.length = kds.length := by have := congrArg List.length hk; simpa using this
  have hH : H d = some (.frz od (.dT kvs)) := s2.fz _ _ _ (s1.fz _ _ _ hF)
  refine ⟨fun y hy => ?_, fun h1 _ => ⟨hH, by simp at h1; omega⟩⟩
  rw [List.map_map, List.getElem?_map] at hy
  obtain ⟨q, hq, rfl⟩ := Option.map_eq_some_iff.mp hy
  have hi : i < kds.length := (List.getElem?_eq_some_iff.mp hq).1
  refine ⟨⟨hH, by omega⟩, ?_⟩
  rintro x H' ⟨rfl, k, v, p, h1, rfl, h3⟩
  refine ⟨_, .inr (.inr ⟨p, _, h3, rfl, rfl⟩), ?_⟩
  have e1 : (kvs.map (·.1))[i]? = some k := by rw [List.getElem?_map, h1]; rfl
  rw [hk, List.getElem?_map, hq] at e1
  cases e1
  exact .tup upd_same (kVs_rp _)
theorem walks_keys {K : PySem.W.Frag} {F : Hp} {d : Addr} {od : Obj} {kvs : List (Key × V)} {kds : List (Key × D)} (hF : F d = some (.frz od (.dK kvs))) (hk : kvs.map (·.1) = kds.map (·.1)) :
    WalksD K (Itk d od kvs) F ((kds.map fun p => (keyD p.1, p.2)).map (·.1)) := fun F' H i s1 s2 => by
  have hl : kvs.length = kds.length := by have := congrArg List.length hk; simpa using this
  have hH : H d = some (.frz od (.dK kvs)) := s2.fz _ _ _ (s1.fz _ _ _ hF)
  refine ⟨fun y hy => ?_, fun h1 _ => ⟨hH, by simp at h1; omega⟩⟩
  rw [List.map_map, List.getElem?_map] at hy
  obtain ⟨q, hq, rfl⟩ := Option.map_eq_some_iff.mp hy
  have hi : i < kds.length := (List.getElem?_eq_some_iff.mp hq).1
  refine ⟨⟨hH, by omega⟩, ?_⟩
  rintro x H' ⟨rfl, k, v, h1, rfl⟩
  refine ⟨_, .inl ⟨rfl, rfl⟩, ?_⟩
  have e1 : (kvs.map (·.1))[i]? = some k := by rw [List.getElem?_map, h1]; rfl
  rw [hk, List.getElem?_map, hq] at e1
  cases e1
  exact kV_rp _
section
variable {X : Cx} {W : WX} {bv : Nat → Option V} {a : Expr} {fa : EM D}
theorem di_keys {tg : Expr} (h : DE X W bv a fa) : DI X W bv tg a (itE itK fa) :=
  pi_imp (pi_keysF h) fun σ H R t => tG.mono (tI_bnd t) fun x H1 ⟨d, e1, F1, fp1, ds, S1, r1, hk, q⟩ => by
    cases r1 with
    | dT hd e r =>
      cases hk
      refine ⟨_, rfl, ?_⟩
      rcases S1.known hd (fun _ z => nomatch z) (fun _ _ z => nomatch z) with ⟨hH, k⟩ | ⟨od, hH, st, S2⟩
      · exact .inl ⟨_, hH, fun od => q _ _ _ fp1 (k od).1 (k od).2 (walks_keysT upd_same e)⟩
      · exact .inr (.inl ⟨od, _, hH, q _ _ _ fp1 st S2 (walks_keysT upd_same e)⟩)
    | dK hd e r =>
      cases hk
      refine ⟨_, rfl, ?_⟩
      rcases S1.known hd (fun _ z => nomatch z) (fun _ _ z => nomatch z) with ⟨hH, k⟩ | ⟨od, hH, st, S2⟩
      · exact .inr (.inr (.inl ⟨_, hH, fun od => q _ _ _ fp1 (k od).1 (k od).2 (walks_keys upd_same e)⟩))
      · exact .inr (.inr (.inr ⟨od, _, hH, q _ _ _ fp1 st S2 (walks_keys upd_same e)⟩))
    | _ => cases hk
def itX : D → Option (List D)
  | .list ds => some ds
  | .tuple ds => some ds
  | .str x => some (x.cps.toList.map fun c => .str ⟨#[c]⟩)
  | .dict kvs => some (kvs.map (·.1))
  | _ => none
theorem di_any {tg : Expr} (h : DE X W bv a fa) : DI X W bv tg a (itE itX fa) :=
  pi_case fun e => by
    unfold itE bnd
    cases z : fa e with
    | no => exact ⟨itE itL fa, by unfold itE bnd; rw [z], di_list h⟩
    | ex C fs' e' => exact ⟨itE itL fa, by unfold itE bnd; rw [z], di_list h⟩
    | ok d e1 =>
      cases d with
      | tuple ds => exact ⟨itE itT fa, by unfold itE bnd; rw [z]; rfl, di_tup h⟩
      | str ds => exact ⟨itE itS fa, by unfold itE bnd; rw [z]; rfl, di_str h⟩
      | dict ds => exact ⟨itE itK fa, by unfold itE bnd; rw [z]; rfl, di_keys h⟩
      | _ => exact ⟨itE itL fa, by unfold itE bnd; rw [z]; rfl, di_list h⟩
end
end FD

/-! FD: a comprehension's list that its taker owns; extend, pop; sorted. -/
namespace FD
open PySem L2
def compM (vs : List Nat) (fi : EM (List D)) (t : D → EM Unit) (tt : EM Bool) (te : EM D) : EM M := bnd fi fun ds e => if vs.all (imAt e) then (match compL vs t tt te ds (wipeE e vs) with
  | .ok ys e1 => if few ys.length && vs.all (imAt e1) then .ok (.ls (ys.map .im)) (backE e1 e vs) else .no
  | _ => .no) else .no
section
variable {K : PySem.W.Frag} {W : WX} {bv : Nat → Option V} {σ : L2.St}
theorem compM_of {vs l : List Nat} {fi : EM (List D)} {t : D → EM Unit} {tt : EM Bool} {te : EM D} {H : Hp} {Q : VK} (hl : ∀ i ∈ l, i ∈ vs) (hb : vs.all (fun i => (bv i).isNone) = true)
    (h : tM K W bv (compM vs fi t tt te) σ H Q) : tLc (tI K W bv fi) (tTg K bv l t) (tT K W0 bv tt) (tE K W0 bv te) vs σ H Q := by
  obtain ⟨e, F, fp, S, q⟩ := h
  refine ⟨e, F, fp, S, ?_⟩
  unfold AtG compM bnd at q
  cases z : fi e with
  | no => rw [z] at q; exact q
  | ex C fs e' => rw [z] at q; exact q
  | ok ds e1 =>
    rw [z] at q
    intro J F1 H1 fp1 s1 S1 wk A hA
    dsimp only at q
    by_cases hw : vs.all (imAt e1) = true
    · rw [if_pos hw] at q
      cases z2 : compL vs t tt te ds (wipeE e1 vs) with
      | no => rw [z2] at q; exact q.elim
      | ex _ _ _ => rw [z2] at q; exact q.elim
      | ok zs ef =>
        rw [z2] at q
        dsimp only at q
        by_cases hfew : (few zs.length && vs.all (imAt ef)) = true
        · rw [if_pos hfew] at q
          rw [Bool.and_eq_true] at hfew
          have hz : zs.length ≤ 1000000 := of_decide_eq_true hfew.1
          have S1' := S1.wipe hw hb
          have fA : F1 A = none := S1.sub.non hA
          have pA : ¬ Pf fp1 A := fun ⟨i, h⟩ => by
            obtain ⟨o, ho⟩ := S1.live h
            rw [hA] at ho
            cases ho
          have C0 : CS K bv (wipeE e1 vs) (wipe σ vs) F1 (upd H1 A (.lst [])) fp1 A [] := by
            refine ⟨S1'.heap (Sub.refl F1) (S1.sub.mut fA) (fun i a o h q => ?_) S1.fr, ⟨[], upd_same, .nil⟩, fA, pA⟩
            rw [upd_ne (ne_of_none q hA)]
            exact q
          refine ⟨fun i m H' => m = ds.length - i ∧ i ≤ ds.length ∧ ∃ e' F' fp' ys zs', Stp F1 H1 (Pf fp1) F' H' (Pf fp') ∧ CS K bv e' (wipe σ vs) F' H' fp' A ys ∧ compL vs t tt te (ds.drop i) e' = .ok zs' ef ∧ ys ++ zs' = zs, ⟨ds.length, rfl, Nat.zero_le _, wipeE e1 vs, F1, fp1, [], zs, (Stp.refl _ _ _).grow hA, C0, z2, rfl⟩, ?_⟩
          rintro i m H' ⟨rfl, hi, e', F', fp', ys, zs', s', C', q', hyz⟩
          obtain ⟨go, stop⟩ := wk F' H' i s'.ext C'.ss.sub
          by_cases hlt : i < ds.length
          · refine .inr ⟨(go ds[i] (List.getElem?_eq_getElem hlt)).1, _, fun H2 h2 => ⟨ds.length - (i + 1), by omega, h2⟩, fun x H2 y => ?_⟩
            obtain ⟨F2, gr, r2⟩ := (go ds[i] (List.getElem?_eq_getElem hlt)).2 x H2 y
            have s2 : Stp F' H' (Pf fp') F2 H2 (Pf fp') := gr.stp C'.ss.sub
            have C2 := C'.step s2 (gr.ss C'.ss)
            rw [List.drop_eq_getElem_cons hlt] at q'
            refine turn_of hl hb (by rw [← hyz, List.length_append] at hz; exact hz) C2 r2 q' fun e3 F3 H3 fp3 ys3 zs3 ⟨H4, s4, h4⟩ C3 q3 h3 => ?_
            refine ⟨rfl, hlt, e3, F3, fp3, ys3, zs3, ?_, C3, q3, h3.trans hyz⟩
            have s5 := (s'.trans s2).trans s4
            rcases h4 with rfl | ⟨o, rfl⟩
            · exact s5
            · exact s5.grow hA
          · have ei : i = ds.length := by omega
            subst ei
            rw [List.drop_length] at q'
            cases q'
            rw [List.append_nil] at hyz
            subst hyz
            obtain ⟨acc, h1, h2⟩ := C'.li
            have hA0 : H A = none := s1.live A hA
            have s9 : Stp F H (Pf fp) F' H' (fun a => Pf fp' a ∨ a ∈ [A]) := by
              have s := s1.trans s'
              refine ⟨s.ext, s.keep, s.live, s.newF, fun a h => ?_⟩
              rcases h with h | h
              · exact s.newP a h
              · rw [List.mem_singleton] at h
                subst h
                exact .inr hA0
            refine .inl ⟨stop (Nat.le_refl _) (Nat.le_refl _), q _ F' H' fp' _ s9 (S1.unwipe hw s'.ext C'.ss hfew.2) ⟨[A], rfl, Own.ls (fp := []) h1 (OwnL.ims h2), by simp, fun a ha => ?_, fun a ha => ?_⟩⟩
            · rw [List.mem_singleton] at ha; subst ha; exact C'.np
            · rw [List.mem_singleton] at ha; subst ha; exact C'.nf
        · rw [if_neg hfew] at q
          exact q.elim
    · rw [if_neg hw] at q
      exact q.elim
end
section
variable {X : Cx} {W : WX} {bv : Nat → Option V} {pos : Pos}
theorem dm_comp {elt tg iter : Expr} {ifs : List Expr} {scope : Scope} (own : List (Str × Nat)) {l : List Nat} {fi : EM (List D)} {t : D → EM Unit} {tt : EM Bool} {te : EM D} (hN : X.N.Nodup) (hi : DI X W bv tg iter fi) (ok : BlkOk X.N X.env.scope scope own)
    (hg : ∀ (s : Shared) (H : Hp) (C : Addr) (cl : List (Str × Addr)) (fp : List Addr), DG (X.blk s H scope (compEnvC scope cl C X.env) fp) bv tg l t) (ht : ∀ (s : Shared) (H : Hp) (C : Addr) (cl : List (Str × Addr)) (fp : List Addr), DTs (X.blk s H scope (compEnvC scope cl C X.env) fp) W0 bv ifs tt)
    (he : ∀ (s : Shared) (H : Hp) (C : Addr) (cl : List (Str × Addr)) (fp : List Addr), DE (X.blk s H scope (compEnvC scope cl C X.env) fp) W0 bv elt te) (hl : l.all ((own.map (·.2)).contains ·) = true := by rfl) (hb : (own.map (·.2)).all (fun i => (bv i).isNone) = true := by rfl)
    (hc : X.calm = true := by rfl) (hs : ∀ x, foldedSetIterable iter X.env x = pure x := by intro _; rfl) :
    DM X W bv (.ListComp elt [⟨tg, iter, ifs, 0⟩] scope pos) (compM (own.map (·.2)) fi t tt te) :=
  pe_imp (pe_lc hc hN hi ok hg ht he hs) fun σ H Q h => compM_of (fun i hi => by
    rw [List.all_eq_true] at hl
    exact List.contains_iff_mem.mp (hl i hi)) hb h
theorem ds_setLcM (i : Nat) {y : Str} {py : Pos} {elt tg iter : Expr} {ifs : List Expr} {scope : Scope} (own : List (Str × Nat)) {l : List Nat} {spos : Pos} {fi : EM (List D)} {t : D → EM Unit} {tt : EM Bool} {te : EM D} (hN : X.N.Nodup) (hi : DI X W bv tg iter fi) (ok : BlkOk X.N X.env.scope scope own)
    (hg : ∀ (s : Shared) (H : Hp) (C : Addr) (cl : List (Str × Addr)) (fp : List Addr), DG (X.blk s H scope (compEnvC scope cl C X.env) fp) bv tg l t) (ht : ∀ (s : Shared) (H : Hp) (C : Addr) (cl : List (Str × Addr)) (fp : List Addr), DTs (X.blk s H scope (compEnvC scope cl C X.env) fp) W0 bv ifs tt)
    (he : ∀ (s : Shared) (H : Hp) (C : Addr) (cl : List (Str × Addr)) (fp : List Addr), DE (X.blk s H scope (compEnvC scope cl C X.env) fp) W0 bv elt te)
    (hsw : swapsWith (.ListComp elt [⟨tg, iter, ifs, 0⟩] scope pos) (some (.Name y py)) spos.line X.env = pure true)
    (hy : X.N[i]? = some y := by rfl) (hyl : X.env.scope.names.lookup y = some .local := by rfl) (hbi : bv i = none := by rfl)
    (hl : l.all ((own.map (·.2)).contains ·) = true := by rfl) (hb : (own.map (·.2)).all (fun i => (bv i).isNone) = true := by rfl) (hc : X.calm = true := by rfl) (hs : ∀ x, foldedSetIterable iter X.env x = pure x := by intro _; rfl) :
    DS X W bv (.Assign [.Name y py] (.ListComp elt [⟨tg, iter, ifs, 0⟩] scope pos) spos) (setM i (compM (own.map (·.2)) fi t tt te)) :=
  ps_imp (ps_setLc hc hN hy hyl hsw hi ok hg ht he hs) fun D σ H ⟨e, F, fp, S, q⟩ => compM_of (fun i hi => by
    rw [List.all_eq_true] at hl
    exact List.contains_iff_mem.mp (hl i hi)) hb (tG.mono (AtS.bndM S q) fun v H1 ⟨d, e1, F1, fp1, P1, _, s1, S1, r1, q1⟩ => stoM_at hbi s1 S1 r1 q1)
/-! ### xs.extend(e) -/
def extM (i : Nat) (m : M) : EM Flow := fun e => match m with
  | .ls ns => (match imAll ns with
    | some ds => (match e[i]? with
      | some (some (.ls ms)) => if few (ms.length + ds.length) then .ok .nxt (e.set i (some (.ls (ms ++ ds.map .im)))) else .no
      | _ => .no)
    | none => .no)
  | _ => .no
def extS (i : Nat) (f : EM M) : EM Flow := fun e => if isLs i e then bnd f (fun d => extM i d) e else .no
theorem OwnL.cat {K : PySem.W.Frag} {F H : Hp} {us : List V} {ds : List D} (r : RpL K F us ds) : ∀ {vs : List V} {ms : List M} {fpl : List Addr}, OwnL K F H vs ms fpl → OwnL K F H (vs ++ us) (ms ++ ds.map .im) fpl
  | _, _, _, .nil => OwnL.ims r
  | _, _, _, .cons h t => .cons h (OwnL.cat r t)
theorem ds_extend (i : Nat) {a : Expr} {fa : EM M} {x : Str} {px apos p : Pos} (h : DM X W bv a fa) (hN : X.N[i]? = some x := by rfl) (hv : Vis X.env.scope x := by first | exact Or.inl rfl | exact Or.inr (Or.inl rfl) | exact Or.inr (Or.inr rfl)) (hd : (x == ("__debug__" : Str)) = false := by decide) (hcd : (x == ("__classdict__" : Str)) = false := by decide)
    (hbase : attributeBase (.Name x px) "extend" X.env (eval (.Name x px) X.env) = eval (.Name x px) X.env := by rfl)
    (hfew : ((backTo p (starEach [a] X.env)).all (fun x => !x.1) && (backToKw p (keywordEach [] X.env)).all (fun x => x.1.isSome) && decide (([a] : List Expr).length + ([] : List Keyword).length + (if ([] : List Keyword).isEmpty then 0 else 1) < 30)) = true := by rfl)
    (hline : (apos.endLine == p.line) = true := by rfl) (hs : starEach [a] X.env = (false, eval a X.env) :: starEach [] X.env := by rfl) (hpl : (backTo p (starEach [] X.env)).any (·.1) = false := by rfl)
    (hsw : swapsWith (.Call (.Attribute (.Name x px) "extend" apos) [a] [] p) none pos.line X.env = pure false := by rfl) :
    DS X W bv (.Expr (.Call (.Attribute (.Name x px) "extend" apos) [a] [] p) pos) (extS i fa) :=
  ps_imp (ps_expr (pe_bm PySem.F.plainAttrs_list PySem.F.slot_list_extend PySem.F.type_list_extend mt_extend (pe_var hN hv hd hcd) (pa_cons h pa_nil hs) hbase hfew hline hs hpl) hsw) fun D σ H ⟨e, F, fp, S, q⟩ => by
    unfold AtS extS at q
    by_cases hl : isLs i e = true
    · rw [if_pos hl] at q
      obtain ⟨ms, he⟩ := isLs_at hl
      obtain ⟨a0, vs, fpl, h1, h2, _⟩ := S.lsAt he
      refine ⟨_, h1, .inl ⟨rfl, _, SqL.of h2⟩, ?_⟩
      refine tG.mono (AtS.bndM S q) fun v H1 ⟨m, e1, F1, fp1, P1, _, s1, S1, r1, q1⟩ => ?_
      unfold AtS extM at q1
      obtain ⟨fpr, hP, o, nd, dj, fr⟩ := r1
      cases m with
      | ls ns =>
        cases o with
        | ls hb r =>
          dsimp only at q1
          cases hi : imAll ns with
          | none => rw [hi] at q1; exact q1.elim
          | some ds =>
            rw [hi] at q1
            rw [of_imAll hi] at r
            obtain ⟨r, _⟩ := OwnL.of_ims r
            dsimp only at q1
            split at q1
            rotate_left
            exact q1.elim
            rename_i ms1 he1
            obtain ⟨a1, vs1, fpl1, g1, g2, g3, g4, g5⟩ := S1.lsAt he1
            rw [h1] at g1
            cases g1
            split at q1
            rotate_left
            exact q1.elim
            rename_i hz
            have hlen := g4.length
            have hlen2 := r.length
            have hz' := few_le hz
            refine ⟨_, _, _, _, rfl, rfl, g2, hb, by omega, ?_⟩
            obtain ⟨S2, s2⟩ := S1.upH (m := .ls (ms1 ++ ds.map .im)) (List.getElem?_eq_some_iff.mp he1).1 h1 g3 (.ls upd_same ((OwnL.cat r g4).other g5))
            have s1' : Stp F H (Pf fp) F1 H1 (Pf fp1) := ⟨s1.ext, s1.keep, s1.live, s1.newF, fun a ha => s1.newP a (by rw [hP]; exact .inl ha)⟩
            exact q1 σ F1 _ fp1 (s1'.trans s2) S2
      | _ => exact q1.elim
    · rw [if_neg hl] at q
      exact q.elim
end
/-! ### sorted -/
theorem perm_uniq {α : Type} {r : α → α → Prop} (anti : ∀ a b, r a b → r b a → a = b) : ∀ {l m : List α}, l.Pairwise r → m.Pairwise r → l.Perm m → l = m
  | [], m, _, _, p => (List.Perm.eq_nil p.symm).symm
  | a :: l, [], _, _, p => absurd p.length_eq (by simp)
  | a :: l, b :: m, hl, hm, p => by
    have e : a = b := by
      rcases List.mem_cons.mp (p.mem_iff.mp (List.mem_cons_self (a := a) (l := l))) with h | h
      · exact h
      · rcases List.mem_cons.mp (p.mem_iff.mpr (List.mem_cons_self (a := b) (l := m))) with h' | h'
        · exact h'.symm
        · exact anti a b ((List.pairwise_cons.mp hl).1 b h') ((List.pairwise_cons.mp hm).1 a h)
    subst e
    rw [perm_uniq anti (List.pairwise_cons.mp hl).2 (List.pairwise_cons.mp hm).2 p.cons_inv]
def leS (a b : Str) : Bool := !PySem.Spec.ltCps b.cps.toList a.cps.toList
theorem leS_iff {a b : Str} : leS a b = true ↔ a.cps.toList ≤ b.cps.toList := by
  unfold leS
  rw [PyProof.Rows.ltCps_eq]
  simp
theorem leS_trans (a b c : Str) (h1 : leS a b = true) (h2 : leS b c = true) : leS a c = true := leS_iff.mpr (List.le_trans (leS_iff.mp h1) (leS_iff.mp h2))
theorem leS_total (a b : Str) : (leS a b || leS b a) = true := by
  rw [Bool.or_eq_true, leS_iff, leS_iff]
  exact List.le_total _ _
theorem leS_anti (a b : Str) (h1 : leS a b = true) (h2 : leS b a = true) : a = b := by
  have e := List.le_antisymm (leS_iff.mp h1) (leS_iff.mp h2)
  cases a; cases b
  simp at e
  rw [e]
theorem leS_rising : ∀ {p : Str} {l : List Str}, PyProof.Rows.risingS p l = true → (p :: l).Pairwise fun a b => leS a b = true
  | p, [], _ => List.pairwise_singleton _ _
  | p, x :: r, h => by
    simp only [PyProof.Rows.risingS, Bool.and_eq_true] at h
    have ih := leS_rising h.2
    refine List.pairwise_cons.mpr ⟨fun y hy => ?_, ih⟩
    rcases List.mem_cons.mp hy with e | hy
    · rw [e]; exact h.1
    · exact leS_trans p x y h.1 ((List.pairwise_cons.mp ih).1 y hy)
theorem leS_sorted {l : List Str} (h : PyProof.Rows.sortedS l = true) : l.Pairwise fun a b => leS a b = true := by
  cases l with
  | nil => exact List.Pairwise.nil
  | cons x r => exact leS_rising h
def srtS (xs : List Str) : List Str := xs.mergeSort leS
def srtI (xs : List Int) : List Int := xs.mergeSort fun a b => decide (a ≤ b)
theorem srtS_of {xs ys : List Str} (p : ys.Perm xs) (h : PyProof.Rows.sortedS ys = true) : ys = srtS xs :=
  perm_uniq (r := fun a b => leS a b = true) leS_anti (leS_sorted h) (List.pairwise_mergeSort leS_trans leS_total xs) (p.trans (List.mergeSort_perm xs leS).symm)
theorem srtI_of {xs ys : List Int} (p : ys.Perm xs) (h : ys.Pairwise (· ≤ ·)) : ys = srtI xs :=
  perm_uniq (r := fun a b => a ≤ b) (fun a b h1 h2 => Int.le_antisymm h1 h2) h ((List.pairwise_mergeSort (le := fun a b : Int => decide (a ≤ b)) (fun a b c h1 h2 => by simp at *; omega) (fun a b => by simp; omega) xs).imp fun h => by simpa using h) (p.trans (List.mergeSort_perm xs _).symm)
def strsOf : List D → Option (List Str)
  | [] => some []
  | .str b :: r => (strsOf r).map (b :: ·)
  | _ => none
theorem RpL.strs {K : PySem.W.Frag} {F : Hp} : ∀ {vs : List V} {ds : List D} {xs : List Str}, RpL K F vs ds → strsOf ds = some xs → vs = xs.map V.str
  | _, _, _, .nil, h => by cases h; rfl
  | _, .str x :: ds, xs, .cons r t, h => by
    cases r
    obtain ⟨ys, h1, rfl⟩ := Option.map_eq_some_iff.mp h
    rw [List.map_cons, ← RpL.strs t h1]
  | _, .none :: _, _, _, h => by cases h
  | _, .bool _ :: _, _, _, h => by cases h
  | _, .int _ :: _, _, _, h => by cases h
  | _, .list _ :: _, _, _, h => by cases h
  | _, .tuple _ :: _, _, _, h => by cases h
  | _, .dict _ :: _, _, _, h => by cases h
theorem rpl_strs {K : PySem.W.Frag} {F : Hp} : ∀ xs : List Str, RpL K F (xs.map V.str) (xs.map PyData.str)
  | [] => .nil
  | x :: xs => .cons (.str x) (rpl_strs xs)
theorem rpl_ints {K : PySem.W.Frag} {F : Hp} : ∀ xs : List Int, RpL K F (xs.map V.int) (xs.map PyData.int)
  | [] => .nil
  | x :: xs => .cons (.int x) (rpl_ints xs)
def sortedD : List D → Option D
  | [.list ds] => match strsOf ds with
    | some xs => if decide (xs.length < 64) then some (.list ((srtS xs).map .str)) else none
    | none => (intsOf ds).map fun ns => .list ((srtI ns).map .int)
  | _ => none
section
variable {X : Cx} {W : WX} {bv : Nat → Option V} {pos : Pos}
theorem cb_sorted : CbD X (.builtin "sorted") sortedD := by
  refine ⟨_, CallR.or cr_sortedS cr_sortedI, ?_⟩
  intro W bv e σ F H fp vs ds Q S r q
  obtain ⟨d, hd, q'⟩ := q.lif
  unfold sortedD at hd
  split at hd
  · rename_i ds'
    cases r with
    | cons r t =>
      cases t
      cases r with
      | lst h rl =>
        split at hd
        · rename_i xs hx
          split at hd
          · rename_i h64
            cases hd
            refine .inl ⟨_, xs, rfl, by rw [← rl.strs hx]; exact S.sub.l h, of_decide_eq_true h64, fun ys p hp hs hn => ?_⟩
            rw [srtS_of hp hs]
            exact AtG.made (r := rD X.K) S q' hn (.lst (.inl (.inl upd_same)) (rpl_strs _))
          · cases hd
        · obtain ⟨ns, h1, rfl⟩ := Option.map_eq_some_iff.mp hd
          refine .inr ⟨_, ns, rfl, by rw [← rl.ints h1]; exact S.sub.l h, fun ys p hp hs hn => ?_⟩
          rw [srtI_of hp hs]
          exact AtG.made (r := rD X.K) S q' hn (.lst (.inl (.inl upd_same)) (rpl_ints _))
  · cases hd
end
end FD
namespace FD
open PySem L2
/-! ### a, b = data, a thing to own -/
def parDM (i j : Nat) (fa : EM D) (fm : EM M) : EM Flow := bnd fa fun d => bnd fm fun m => seqS (stoM j m) (stoM i (.im d))
section
variable {X : Cx} {W : WX} {bv : Nat → Option V} {pos : Pos} {a b : Expr} {fa : EM D} {fm : EM M}
theorem ds_parDM (i j : Nat) {x y : Str} {px py pt : Pos} {kt k2 pt2} (hN : X.N.Nodup) (ha : DE X W bv a fa) (hb : DM X W bv b fm) (hc : X.calm = true := by rfl) (hi : X.N[i]? = some x := by rfl) (hj : X.N[j]? = some y := by rfl) (hij : i ≠ j := by decide)
    (hx : X.env.scope.names.lookup x = some .local := by rfl) (hy : X.env.scope.names.lookup y = some .local := by rfl) (hbi : bv i = none := by rfl) (hbj : bv j = none := by rfl)
    (hw : swappedStores [.Tuple [.Name x px, .Name y py] kt pt] (.Tuple [a, b] k2 pt2) X.env = pure (some [x, y]) := by rfl)
    (hs : swapsWithSole [.Tuple [.Name x px, .Name y py] kt pt] (.Tuple [a, b] k2 pt2) pos.line X.env = pure false := by rfl)
    (hs1 : starEach (a :: [b]) X.env = (false, eval a X.env) :: starEach [b] X.env := by rfl) (hs2 : starEach (b :: []) X.env = (false, eval b X.env) :: starEach [] X.env := by rfl) :
    DS X W bv (.Assign [.Tuple [.Name x px, .Name y py] kt pt] (.Tuple [a, b] k2 pt2) pos) (parDM i j fa fm) :=
  ps_imp (ps_par hc hN hi hj hij hx hy (pa_cons ha (pa_cons hb pa_nil hs2) hs1) hw hs) fun D σ H ⟨e, F, fp, S, q⟩ => by
    refine tG.mono (AtS.bnd' (r := rD X.K) S q) fun v H1 ⟨d, e1, F1, fp1, _, _, S1, r1, q1⟩ => ?_
    refine tG.mono (AtS.bndM S1 q1) fun w H2 ⟨m, e2, F2, fp2, P2, _, s2, S2, r2, q2⟩ => ?_
    refine ⟨v, w, rfl, ?_⟩
    obtain ⟨fpr, hP, o, nd, dj, fr⟩ := r2
    unfold AtS seqS at q2
    by_cases hl : j < e2.length
    · have e4 : stoM j m e2 = .ok .nxt (e2.set j (some m)) := by unfold stoM; rw [if_pos hl]
      rw [e4] at q2
      have S3 := S2.store (P := P2) hl hbj o nd dj fr
      have s3 := stp_store (i := j) s2 hP
      have q3 : AtS X.K W bv (stoM i (.im d)) (e2.set j (some m)) (σ.set j (some w)) F2 H2 (put fp2 j fpr) D := AtS.back (σ := σ.set j (some w)) s3 q2
      have := stoM_at hbi (Stp.refl _ _ _) S3 (rM_im (Rp.mono s2.ext r1)) q3
      rw [List.set_comm _ _ hij]
      exact this
    · have e4 : stoM j m e2 = .no := by unfold stoM; rw [if_neg hl]
      rw [e4] at q2
      exact q2.elim
end
end FD

/-! FD: how denotations are computed: lemmas for simp, loops and comprehensions by what each turn does. -/
namespace FD
open PySem L2
@[simp] theorem toD_im {d : D} : (M.im d).toD = some d := rfl
theorem few_le' {n : Nat} (h : n ≤ 1000000) : few n = true := decide_eq_true h
@[simp] theorem few_lit {n : Nat} : few n = decide (n ≤ 1000000) := rfl
theorem bnd_eq {α β : Type} {f : EM α} {k : α → EM β} {e e1 : Env} {a : α} (h : f e = .ok a e1) : bnd f k e = k a e1 := by
  unfold bnd
  rw [h]
theorem consA_eq {f : EM D} {g : EM (List D)} {e e1 e2 : Env} {d : D} {ds : List D} (h1 : f e = .ok d e1) (h2 : g e1 = .ok ds e2) : consA f g e = .ok (d :: ds) e2 := by
  unfold consA
  rw [bnd_eq h1, bnd_eq h2]
  rfl
theorem cbE_eq {g : List D → Option D} {fs : EM (List D)} {e e1 : Env} {ds : List D} {d : D} (h1 : fs e = .ok ds e1) (h2 : g ds = some d) : cbE g fs e = .ok d e1 := by
  unfold cbE
  rw [bnd_eq h1, h2]
  rfl
theorem bin_eq {g : D → D → Option D} {fa fb : EM D} {e e1 e2 : Env} {x y z : D} (h1 : fa e = .ok x e1) (h2 : fb e1 = .ok y e2) (h3 : g x y = some z) : bin g fa fb e = .ok z e2 := by
  unfold bin
  rw [bnd_eq h1, bnd_eq h2, h3]
  rfl
theorem itE_eq {g : D → Option (List D)} {f : EM D} {e e1 : Env} {d : D} {ds : List D} (h1 : f e = .ok d e1) (h2 : g d = some ds) : itE g f e = .ok ds e1 := by
  unfold itE
  rw [bnd_eq h1, h2]
  rfl
theorem call1 {Fs : List M → FOut} {f : EM D} {e e1 : Env} {d r : D} {m : M} (h1 : f e = .ok d e1) (h2 : Fs [.im d] = .ok m [.im d]) (h3 : m.toD = some r) : callD Fs (arD f arN) e = .ok r e1 := by
  have q : callM Fs (arD f arN) e = .ok m e1 := by simp [FD.ret, FD.lif, FD.bnd, FD.var, FD.bin, FD.un, FD.tst, FD.andT, FD.orT, FD.notT, FD.andV, FD.orV, FD.notV, FD.ifE, FD.nilA, FD.consA, FD.tupE, FD.lstE, FD.seqS, FD.exprS, FD.retS, FD.retM, FD.ifS, FD.stoM, FD.setS, FD.setM, FD.gN, FD.gsNil, FD.gsCons, FD.gT, FD.goS, FD.asgS, FD.parS, FD.augS, FD.itE, FD.itA, FD.cbE, FD.slE, FD.intE, FD.arN, FD.arD, FD.arB, FD.callD, FD.callM, FD.slotsOf, FD.argM, FD.putB, FD.isIm, FD.endF, FD.backs, FD.args0, FD.defF, FD.chn, FD.lstM, FD.dtM, FD.dkM, FD.imM, FD.frzE, FD.has, FD.chk, FD.pk, FD.pkLen, FD.peekD, FD.pkL, FD.pkR, callM, arD, arN, bnd, h1, h2]
  unfold callD
  rw [bnd_eq q, h3]
  rfl
theorem call2 {Fs : List M → FOut} {f g : EM D} {e e1 e2 : Env} {d d' r : D} {m : M} (h1 : f e = .ok d e1) (h1' : g e1 = .ok d' e2) (h2 : Fs [.im d, .im d'] = .ok m [.im d, .im d']) (h3 : m.toD = some r) : callD Fs (arD f (arD g arN)) e = .ok r e2 := by
  have q : callM Fs (arD f (arD g arN)) e = .ok m e2 := by simp [FD.ret, FD.lif, FD.bnd, FD.var, FD.bin, FD.un, FD.tst, FD.andT, FD.orT, FD.notT, FD.andV, FD.orV, FD.notV, FD.ifE, FD.nilA, FD.consA, FD.tupE, FD.lstE, FD.seqS, FD.exprS, FD.retS, FD.retM, FD.ifS, FD.stoM, FD.setS, FD.setM, FD.gN, FD.gsNil, FD.gsCons, FD.gT, FD.goS, FD.asgS, FD.parS, FD.augS, FD.itE, FD.itA, FD.cbE, FD.slE, FD.intE, FD.arN, FD.arD, FD.arB, FD.callD, FD.callM, FD.slotsOf, FD.argM, FD.putB, FD.isIm, FD.endF, FD.backs, FD.args0, FD.defF, FD.chn, FD.lstM, FD.dtM, FD.dkM, FD.imM, FD.frzE, FD.has, FD.chk, FD.pk, FD.pkLen, FD.peekD, FD.pkL, FD.pkR, callM, arD, arN, bnd, h1, h1', h2]
  unfold callD
  rw [bnd_eq q, h3]
  rfl
theorem callK1 {Fs : List M → FOut} {f : EM D} {e e1 : Env} {d r : D} {m : M} (h1 : f e = .ok d e1) (h2 : Fs [.im d] = .ok m [.im d]) (h3 : m.toD = some r) : callD Fs (kwA 0 1 [.inl 0] [] arN (arD f arN)) e = .ok r e1 := by
  have q : callM Fs (kwA 0 1 [.inl 0] [] arN (arD f arN)) e = .ok m e1 := by simp [FD.ret, FD.lif, FD.bnd, FD.var, FD.bin, FD.un, FD.tst, FD.andT, FD.orT, FD.notT, FD.andV, FD.orV, FD.notV, FD.ifE, FD.nilA, FD.consA, FD.tupE, FD.lstE, FD.seqS, FD.exprS, FD.retS, FD.retM, FD.ifS, FD.stoM, FD.setS, FD.setM, FD.gN, FD.gsNil, FD.gsCons, FD.gT, FD.goS, FD.asgS, FD.parS, FD.augS, FD.itE, FD.itA, FD.cbE, FD.slE, FD.intE, FD.arN, FD.arD, FD.arB, FD.callD, FD.callM, FD.slotsOf, FD.argM, FD.putB, FD.isIm, FD.endF, FD.backs, FD.args0, FD.defF, FD.chn, FD.lstM, FD.dtM, FD.dkM, FD.imM, FD.frzE, FD.has, FD.chk, FD.pk, FD.pkLen, FD.peekD, FD.pkL, FD.pkR, callM, kwA, arD, arN, bnd, h1, h2, pick]
  unfold callD
  rw [bnd_eq q, h3]
  rfl
theorem loopS_cons {t : D → EM Unit} {g : EM Flow} {d : D} {ds : List D} {e e1 e2 : Env} (h1 : t d e = .ok () e1) (h2 : g e1 = .ok .nxt e2) : loopS t g (d :: ds) e = loopS t g ds e2 := by
  rw [loopS]
  simp only [h1, h2]
theorem whileS_step {n : Nat} {c : EM Bool} {g : EM Flow} {e e1 e2 : Env} (h1 : c e = .ok true e1) (h2 : g e1 = .ok .nxt e2) : whileS (n + 1) c g e = whileS n c g e2 := by
  rw [whileS, bnd_eq h1]
  simp only [if_true, h2]
theorem whileS_end {n : Nat} {c : EM Bool} {g : EM Flow} {e e1 : Env} (h : c e = .ok false e1) : whileS (n + 1) c g e = .ok .nxt e1 := by
  rw [whileS, bnd_eq h]
  rfl
/-- a def of data, by its body -/
theorem run1 {n : Nat} {g : EM Flow} {d : D} {e' : Env} {m : M} (h : g (some (.im d) :: List.replicate n none) = .ok (.ret m) e') : defF 1 (n + 1) [] g [.im d] = .ok m [.im d] := by
  simp only [defF, args0, List.length_cons, List.length_nil, if_true, List.map_cons, List.map_nil, List.cons_append, List.nil_append, Nat.add_sub_cancel, Nat.zero_add, h, endF, backs]
  rfl
theorem run2 {n : Nat} {g : EM Flow} {d d' : D} {e' : Env} {m : M} (h : g (some (.im d) :: some (.im d') :: List.replicate n none) = .ok (.ret m) e') : defF 2 (n + 2) [] g [.im d, .im d'] = .ok m [.im d, .im d'] := by
  simp only [defF, args0, List.length_cons, List.length_nil, if_true, List.map_cons, List.map_nil, List.cons_append, List.nil_append, Nat.add_sub_cancel, Nat.zero_add, h, endF, backs]
  rfl
theorem ret_at {α : Type} {a : α} {e : Env} : FD.ret a e = .ok a e := rfl
theorem intE_eq {f : EM D} {e e1 : Env} {i : Int} (h : f e = .ok (.int i) e1) : intE f e = .ok (some i) e1 := by
  unfold intE
  rw [bnd_eq h]
  rfl
theorem slE_eq {fa : EM D} {fl fh : EM (Option Int)} {e e1 e2 e3 : Env} {d z : D} {lo hi : Option Int} (h1 : fa e = .ok d e1) (h2 : fl e1 = .ok lo e2) (h3 : fh e2 = .ok hi e3) (h4 : slD d lo hi = some z) : slE fa fl fh e = .ok z e3 := by
  unfold slE
  rw [bnd_eq h1, bnd_eq h2, bnd_eq h3, h4]
  rfl
theorem setS_eq {i : Nat} {f : EM D} {e e1 : Env} {d : D} (h : f e = .ok d e1) (hi : i < e1.length) : setS i f e = .ok .nxt (e1.set i (some (.im d))) := by
  unfold setS
  rw [bnd_eq h]
  unfold stoM
  rw [if_pos hi]
theorem tst_eq {f : EM D} {e e1 : Env} {b : Bool} (h : f e = .ok (.bool b) e1) : tst f e = .ok b e1 := by
  unfold tst
  rw [bnd_eq h]
  rfl
theorem ifS_eq {c : EM Bool} {g1 g2 : EM Flow} {e e1 : Env} {b : Bool} (h : c e = .ok b e1) : ifS c g1 g2 e = (if b then g1 else g2) e1 := by
  unfold ifS
  rw [bnd_eq h]
theorem andT_eq {a b : EM Bool} {e e1 : Env} {x : Bool} (h : a e = .ok x e1) : andT a b e = (if x then b else FD.ret false) e1 := by
  unfold andT
  rw [bnd_eq h]
theorem ret_eq {f : EM D} {e e1 : Env} {d : D} (h : f e = .ok d e1) : retS f e = .ok (.ret (.im d)) e1 := by
  unfold retS
  rw [bnd_eq h]
  rfl
/-- a sign -/
def sg (c : Nat) : Str := ⟨#[c]⟩
theorem sg_inj {a b : Nat} (h : sg a = sg b) : a = b := by
  have := congrArg Str.cps h
  simpa [sg] using this
@[simp] theorem sg_beq {a b : Nat} : (sg a == sg b) = (a == b) := by
  rw [Bool.eq_iff_iff, beq_iff_eq, beq_iff_eq]
  exact ⟨sg_inj, fun h => by rw [h]⟩
theorem star_sg : (("*" : Str)) = sg 42 := rfl
theorem first_sg : (("<" : Str)) = sg 60 := rfl
theorem last_sg : ((">" : Str)) = sg 62 := rfl
/-- four things, three things by their places -/
@[simp] theorem ix40 {a b c d : D} : ixA (.tuple [a, b, c, d]) (.int 0) = some a := rfl
@[simp] theorem ix41 {a b c d : D} : ixA (.tuple [a, b, c, d]) (.int 1) = some b := rfl
@[simp] theorem ix42 {a b c d : D} : ixA (.tuple [a, b, c, d]) (.int 2) = some c := rfl
@[simp] theorem ix43 {a b c d : D} : ixA (.tuple [a, b, c, d]) (.int 3) = some d := rfl
@[simp] theorem ix30 {a b c : D} : ixA (.tuple [a, b, c]) (.int 0) = some a := rfl
@[simp] theorem ix31 {a b c : D} : ixA (.tuple [a, b, c]) (.int 1) = some b := rfl
@[simp] theorem ix32 {a b c : D} : ixA (.tuple [a, b, c]) (.int 2) = some c := rfl
@[simp] theorem eqA_int {i j : Int} : eqA (.int i) (.int j) = some (.bool (i == j)) := rfl
@[simp] theorem eqA_str {i j : Str} : eqA (.str i) (.str j) = some (.bool (i == j)) := by
  simp [FD.ret, FD.lif, FD.bnd, FD.var, FD.bin, FD.un, FD.tst, FD.andT, FD.orT, FD.notT, FD.andV, FD.orV, FD.notV, FD.ifE, FD.nilA, FD.consA, FD.tupE, FD.lstE, FD.seqS, FD.exprS, FD.retS, FD.retM, FD.ifS, FD.stoM, FD.setS, FD.setM, FD.gN, FD.gsNil, FD.gsCons, FD.gT, FD.goS, FD.asgS, FD.parS, FD.augS, FD.itE, FD.itA, FD.cbE, FD.slE, FD.intE, FD.arN, FD.arD, FD.arB, FD.callD, FD.callM, FD.slotsOf, FD.argM, FD.putB, FD.isIm, FD.endF, FD.backs, FD.args0, FD.defF, FD.chn, FD.lstM, FD.dtM, FD.dkM, FD.imM, FD.frzE, FD.has, FD.chk, FD.pk, FD.pkLen, FD.peekD, FD.pkL, FD.pkR, eqA, eqD, eqOk, scalD, flatD, flatOf, scal, PyData.eqv]
@[simp] theorem neD_str {i j : Str} : neD (.str i) (.str j) = some (.bool (!(i == j))) := by
  simp [FD.ret, FD.lif, FD.bnd, FD.var, FD.bin, FD.un, FD.tst, FD.andT, FD.orT, FD.notT, FD.andV, FD.orV, FD.notV, FD.ifE, FD.nilA, FD.consA, FD.tupE, FD.lstE, FD.seqS, FD.exprS, FD.retS, FD.retM, FD.ifS, FD.stoM, FD.setS, FD.setM, FD.gN, FD.gsNil, FD.gsCons, FD.gT, FD.goS, FD.asgS, FD.parS, FD.augS, FD.itE, FD.itA, FD.cbE, FD.slE, FD.intE, FD.arN, FD.arD, FD.arB, FD.callD, FD.callM, FD.slotsOf, FD.argM, FD.putB, FD.isIm, FD.endF, FD.backs, FD.args0, FD.defF, FD.chn, FD.lstM, FD.dtM, FD.dkM, FD.imM, FD.frzE, FD.has, FD.chk, FD.pk, FD.pkLen, FD.peekD, FD.pkL, FD.pkR, neD, eqOk, scalD, flatD, flatOf, scal, PyData.eqv]
@[simp] theorem neD_int {i j : Int} : neD (.int i) (.int j) = some (.bool (!(i == j))) := rfl
@[simp] theorem inA2_str {x y z : Str} : inA (.str x) (.tuple [.str y, .str z]) = some (.bool (y == x || z == x)) := by
  simp [FD.ret, FD.lif, FD.bnd, FD.var, FD.bin, FD.un, FD.tst, FD.andT, FD.orT, FD.notT, FD.andV, FD.orV, FD.notV, FD.ifE, FD.nilA, FD.consA, FD.tupE, FD.lstE, FD.seqS, FD.exprS, FD.retS, FD.retM, FD.ifS, FD.stoM, FD.setS, FD.setM, FD.gN, FD.gsNil, FD.gsCons, FD.gT, FD.goS, FD.asgS, FD.parS, FD.augS, FD.itE, FD.itA, FD.cbE, FD.slE, FD.intE, FD.arN, FD.arD, FD.arB, FD.callD, FD.callM, FD.slotsOf, FD.argM, FD.putB, FD.isIm, FD.endF, FD.backs, FD.args0, FD.defF, FD.chn, FD.lstM, FD.dtM, FD.dkM, FD.imM, FD.frzE, FD.has, FD.chk, FD.pk, FD.pkLen, FD.peekD, FD.pkL, FD.pkR, inA, inD, inB, inTOk, flatD, flatAll, memD, PyData.eqv]
@[simp] theorem leI_int {i j : Int} : leI (.int i) (.int j) = some (.bool (decide (i ≤ j))) := rfl
@[simp] theorem ltI_int {i j : Int} : ltI (.int i) (.int j) = some (.bool (decide (i < j))) := rfl
@[simp] theorem geI_int {i j : Int} : geI (.int i) (.int j) = some (.bool (decide (j ≤ i))) := rfl
@[simp] theorem gtI_int {i j : Int} : gtI (.int i) (.int j) = some (.bool (decide (j < i))) := rfl
@[simp] theorem addD_int {i j : Int} : addD (.int i) (.int j) = some (.int (i + j)) := rfl
@[simp] theorem iaddD_int {i j : Int} : iaddD (.int i) (.int j) = some (.int (i + j)) := rfl
@[simp] theorem subD_int {i j : Int} : subD (.int i) (.int j) = some (.int (i - j)) := rfl
@[simp] theorem isiD_int {i : Int} : isiD "int" (.int i) = some (.bool true) := rfl
@[simp] theorem isiD_bi {i : Int} : isiD "bool" (.int i) = some (.bool false) := rfl
@[simp] theorem isiD_str {x : Str} : isiD "str" (.str x) = some (.bool true) := rfl
@[simp] theorem isiD_tup {x : List D} : isiD "tuple" (.tuple x) = some (.bool true) := rfl
@[simp] theorem lenD_tup {x : List D} : lenD [.tuple x] = some (.int x.length) := rfl
@[simp] theorem lenD_list {x : List D} : lenD [.list x] = some (.int x.length) := rfl
@[simp] theorem lenD_sg {c : Nat} : lenD [.str (sg c)] = some (.int 1) := rfl
@[simp] theorem addD_list {x y : List D} : addD (.list x) (.list y) = if few (x.length + y.length) then some (.list (x ++ y)) else none := rfl
@[simp] theorem addD_tup {x y : List D} : addD (.tuple x) (.tuple y) = if few (x.length + y.length) then some (.tuple (x ++ y)) else none := rfl
@[simp] theorem tupleD_list {x : List D} : tupleD [.list x] = some (.tuple x) := rfl
@[simp] theorem itD_list {x : List D} : itD (.list x) = some x := rfl
@[simp] theorem itD_tup {x : List D} : itD (.tuple x) = some x := rfl
@[simp] theorem itX_list {x : List D} : itX (.list x) = some x := rfl
@[simp] theorem itX_tup {x : List D} : itX (.tuple x) = some x := rfl
@[simp] theorem itX_dict {x : List (D × D)} : itX (.dict x) = some (x.map (·.1)) := rfl

/-! ### comprehensions and loops by their turns -/
theorem compL_eq {vs : List Nat} {t : D → EM Unit} {tt : EM Bool} {te : EM D} {e : Env} {f : D → Option D} : ∀ {ds : List D},
    (∀ d ∈ ds, ∃ e1, t d e = .ok () e1 ∧ ((f d = none ∧ ∃ e2, tt e1 = .ok false e2 ∧ vs.all (imAt e2) = true ∧ wipeE e2 vs = e) ∨ ∃ y, f d = some y ∧ ∃ e2 e3, tt e1 = .ok true e2 ∧ te e2 = .ok y e3 ∧ vs.all (imAt e3) = true ∧ wipeE e3 vs = e)) →
    compL vs t tt te ds e = .ok (ds.filterMap f) e
  | [], _ => rfl
  | d :: ds, h => by
    obtain ⟨e1, h1, h2⟩ := h d List.mem_cons_self
    have ih := compL_eq (ds := ds) fun d' hd => h d' (List.mem_cons_of_mem _ hd)
    unfold compL
    rw [h1]
    rcases h2 with ⟨hf, e2, a1, a2, a3⟩ | ⟨y, hf, e2, e3, a1, a2, a3, a4⟩
    · simp only [a1, a2, a3, if_true, ih, List.filterMap_cons, hf]
    · simp only [a1, a2, a3, a4, if_true, ih, List.filterMap_cons, hf]
theorem compE_eq {vs : List Nat} {fi : EM (List D)} {t : D → EM Unit} {tt : EM Bool} {te : EM D} {e e0 : Env} {f : D → Option D} {ds : List D} (hi : fi e = .ok ds e0) (hw : vs.all (imAt e0) = true) (hb : backE (wipeE e0 vs) e0 vs = e0) (hw2 : vs.all (imAt (wipeE e0 vs)) = true) (hl : ds.length ≤ 1000000)
    (h : ∀ d ∈ ds, ∃ e1, t d (wipeE e0 vs) = .ok () e1 ∧ ((f d = none ∧ ∃ e2, tt e1 = .ok false e2 ∧ vs.all (imAt e2) = true ∧ wipeE e2 vs = wipeE e0 vs) ∨ ∃ y, f d = some y ∧ ∃ e2 e3, tt e1 = .ok true e2 ∧ te e2 = .ok y e3 ∧ vs.all (imAt e3) = true ∧ wipeE e3 vs = wipeE e0 vs)) :
    compE vs fi t tt te e = .ok (.list (ds.filterMap f)) e0 := by
  unfold compE bnd
  rw [hi]
  simp only [hw, if_true, compL_eq h, hw2, Bool.and_true]
  rw [if_pos (few_le' (Nat.le_trans (List.length_filterMap_le _ _) hl)), hb]
theorem wipe1 {e : Env} {s : Nat} {x : Option M} : wipeE (e.set s x) [s] = e.set s none := by
  show (e.set s x).set s none = _
  rw [List.set_set]
theorem wipe1' {e : Env} {s : Nat} : wipeE e [s] = e.set s none := rfl
theorem back1 {e : Env} {s : Nat} : backE (e.set s none) e [s] = e := by
  apply List.ext_getElem?
  intro i
  by_cases h : i ∈ [s]
  · rw [backE_in (by rw [List.length_set]) h]
  · rw [backE_out h]
    simp at h
    rw [List.getElem?_set_ne (Ne.symm h)]
theorem imAt_set {e : Env} {s : Nat} {d : D} : imAt (e.set s (some (.im d))) s = true ∧ imAt (e.set s none) s = true := by
  unfold imAt
  by_cases h : s < e.length
  · rw [List.getElem?_set_self h, List.getElem?_set_self h]
    exact ⟨rfl, rfl⟩
  · rw [List.getElem?_eq_none (by rw [List.length_set]; omega), List.getElem?_eq_none (by rw [List.length_set]; omega)]
    exact ⟨rfl, rfl⟩
/-- a comprehension with one name -/
theorem comp1 {s : Nat} {fi : EM (List D)} {tt : EM Bool} {te : EM D} {e : Env} {ds : List D} {b : D → Bool} {f : D → D} (hs : s < e.length) (him : imAt e s = true) (hi : fi e = .ok ds e) (hl : ds.length ≤ 1000000)
    (h : ∀ d ∈ ds, tt (e.set s (some (.im d))) = .ok (b d) (e.set s (some (.im d))) ∧ (b d = true → te (e.set s (some (.im d))) = .ok (f d) (e.set s (some (.im d))))) : compE [s] fi (gN s) tt te e = .ok (.list ((ds.filter b).map f)) e := by
  have q := compE_eq (vs := [s]) (t := gN s) (tt := tt) (te := te) (f := fun d => if b d then some (f d) else none) hi (by simp [FD.ret, FD.lif, FD.bnd, FD.var, FD.bin, FD.un, FD.tst, FD.andT, FD.orT, FD.notT, FD.andV, FD.orV, FD.notV, FD.ifE, FD.nilA, FD.consA, FD.tupE, FD.lstE, FD.seqS, FD.exprS, FD.retS, FD.retM, FD.ifS, FD.stoM, FD.setS, FD.setM, FD.gN, FD.gsNil, FD.gsCons, FD.gT, FD.goS, FD.asgS, FD.parS, FD.augS, FD.itE, FD.itA, FD.cbE, FD.slE, FD.intE, FD.arN, FD.arD, FD.arB, FD.callD, FD.callM, FD.slotsOf, FD.argM, FD.putB, FD.isIm, FD.endF, FD.backs, FD.args0, FD.defF, FD.chn, FD.lstM, FD.dtM, FD.dkM, FD.imM, FD.frzE, FD.has, FD.chk, FD.pk, FD.pkLen, FD.peekD, FD.pkL, FD.pkR, him]) (by rw [wipe1']; exact back1) (by rw [wipe1']; simp [FD.ret, FD.lif, FD.bnd, FD.var, FD.bin, FD.un, FD.tst, FD.andT, FD.orT, FD.notT, FD.andV, FD.orV, FD.notV, FD.ifE, FD.nilA, FD.consA, FD.tupE, FD.lstE, FD.seqS, FD.exprS, FD.retS, FD.retM, FD.ifS, FD.stoM, FD.setS, FD.setM, FD.gN, FD.gsNil, FD.gsCons, FD.gT, FD.goS, FD.asgS, FD.parS, FD.augS, FD.itE, FD.itA, FD.cbE, FD.slE, FD.intE, FD.arN, FD.arD, FD.arB, FD.callD, FD.callM, FD.slotsOf, FD.argM, FD.putB, FD.isIm, FD.endF, FD.backs, FD.args0, FD.defF, FD.chn, FD.lstM, FD.dtM, FD.dkM, FD.imM, FD.frzE, FD.has, FD.chk, FD.pk, FD.pkLen, FD.peekD, FD.pkL, FD.pkR, (imAt_set (d := .none)).2]) hl ?_
  · rw [q]
    congr 2
    clear q hi h hl
    induction ds with
    | nil => rfl
    | cons d ds ih =>
      rw [List.filterMap_cons, List.filter_cons]
      cases b d <;> simp [FD.ret, FD.lif, FD.bnd, FD.var, FD.bin, FD.un, FD.tst, FD.andT, FD.orT, FD.notT, FD.andV, FD.orV, FD.notV, FD.ifE, FD.nilA, FD.consA, FD.tupE, FD.lstE, FD.seqS, FD.exprS, FD.retS, FD.retM, FD.ifS, FD.stoM, FD.setS, FD.setM, FD.gN, FD.gsNil, FD.gsCons, FD.gT, FD.goS, FD.asgS, FD.parS, FD.augS, FD.itE, FD.itA, FD.cbE, FD.slE, FD.intE, FD.arN, FD.arD, FD.arB, FD.callD, FD.callM, FD.slotsOf, FD.argM, FD.putB, FD.isIm, FD.endF, FD.backs, FD.args0, FD.defF, FD.chn, FD.lstM, FD.dtM, FD.dkM, FD.imM, FD.frzE, FD.has, FD.chk, FD.pk, FD.pkLen, FD.peekD, FD.pkL, FD.pkR, ih]
  · intro d hd
    obtain ⟨h1, h2⟩ := h d hd
    refine ⟨e.set s (some (.im d)), ?_, ?_⟩
    · rw [wipe1']
      unfold gN
      rw [if_pos (by rw [List.length_set]; exact hs), List.set_set]
    · cases hb : b d with
      | false =>
        rw [hb] at h1
        exact .inl ⟨by simp [FD.ret, FD.lif, FD.bnd, FD.var, FD.bin, FD.un, FD.tst, FD.andT, FD.orT, FD.notT, FD.andV, FD.orV, FD.notV, FD.ifE, FD.nilA, FD.consA, FD.tupE, FD.lstE, FD.seqS, FD.exprS, FD.retS, FD.retM, FD.ifS, FD.stoM, FD.setS, FD.setM, FD.gN, FD.gsNil, FD.gsCons, FD.gT, FD.goS, FD.asgS, FD.parS, FD.augS, FD.itE, FD.itA, FD.cbE, FD.slE, FD.intE, FD.arN, FD.arD, FD.arB, FD.callD, FD.callM, FD.slotsOf, FD.argM, FD.putB, FD.isIm, FD.endF, FD.backs, FD.args0, FD.defF, FD.chn, FD.lstM, FD.dtM, FD.dkM, FD.imM, FD.frzE, FD.has, FD.chk, FD.pk, FD.pkLen, FD.peekD, FD.pkL, FD.pkR, hb], _, h1, by simp [FD.ret, FD.lif, FD.bnd, FD.var, FD.bin, FD.un, FD.tst, FD.andT, FD.orT, FD.notT, FD.andV, FD.orV, FD.notV, FD.ifE, FD.nilA, FD.consA, FD.tupE, FD.lstE, FD.seqS, FD.exprS, FD.retS, FD.retM, FD.ifS, FD.stoM, FD.setS, FD.setM, FD.gN, FD.gsNil, FD.gsCons, FD.gT, FD.goS, FD.asgS, FD.parS, FD.augS, FD.itE, FD.itA, FD.cbE, FD.slE, FD.intE, FD.arN, FD.arD, FD.arB, FD.callD, FD.callM, FD.slotsOf, FD.argM, FD.putB, FD.isIm, FD.endF, FD.backs, FD.args0, FD.defF, FD.chn, FD.lstM, FD.dtM, FD.dkM, FD.imM, FD.frzE, FD.has, FD.chk, FD.pk, FD.pkLen, FD.peekD, FD.pkL, FD.pkR, imAt_set.1], by rw [wipe1]; rfl⟩
      | true =>
        rw [hb] at h1
        exact .inr ⟨f d, by simp [FD.ret, FD.lif, FD.bnd, FD.var, FD.bin, FD.un, FD.tst, FD.andT, FD.orT, FD.notT, FD.andV, FD.orV, FD.notV, FD.ifE, FD.nilA, FD.consA, FD.tupE, FD.lstE, FD.seqS, FD.exprS, FD.retS, FD.retM, FD.ifS, FD.stoM, FD.setS, FD.setM, FD.gN, FD.gsNil, FD.gsCons, FD.gT, FD.goS, FD.asgS, FD.parS, FD.augS, FD.itE, FD.itA, FD.cbE, FD.slE, FD.intE, FD.arN, FD.arD, FD.arB, FD.callD, FD.callM, FD.slotsOf, FD.argM, FD.putB, FD.isIm, FD.endF, FD.backs, FD.args0, FD.defF, FD.chn, FD.lstM, FD.dtM, FD.dkM, FD.imM, FD.frzE, FD.has, FD.chk, FD.pk, FD.pkLen, FD.peekD, FD.pkL, FD.pkR, hb], _, _, h1, h2 hb, by simp [FD.ret, FD.lif, FD.bnd, FD.var, FD.bin, FD.un, FD.tst, FD.andT, FD.orT, FD.notT, FD.andV, FD.orV, FD.notV, FD.ifE, FD.nilA, FD.consA, FD.tupE, FD.lstE, FD.seqS, FD.exprS, FD.retS, FD.retM, FD.ifS, FD.stoM, FD.setS, FD.setM, FD.gN, FD.gsNil, FD.gsCons, FD.gT, FD.goS, FD.asgS, FD.parS, FD.augS, FD.itE, FD.itA, FD.cbE, FD.slE, FD.intE, FD.arN, FD.arD, FD.arB, FD.callD, FD.callM, FD.slotsOf, FD.argM, FD.putB, FD.isIm, FD.endF, FD.backs, FD.args0, FD.defF, FD.chn, FD.lstM, FD.dtM, FD.dkM, FD.imM, FD.frzE, FD.has, FD.chk, FD.pk, FD.pkLen, FD.peekD, FD.pkL, FD.pkR, imAt_set.1], by rw [wipe1]; rfl⟩
theorem compL2_eq {vs vs1 : List Nat} {t t1 : D → EM Unit} {tt tt1 : EM Bool} {fi1 : EM (List D)} {te : EM D} {e : Env} {f : D → List D} : ∀ {ds : List D},
    (∀ d ∈ ds, ∃ e1 e2 ds1 e3 e4, t d e = .ok () e1 ∧ tt e1 = .ok true e2 ∧ fi1 e2 = .ok ds1 e3 ∧ vs1.all (imAt e3) = true ∧ compL vs1 t1 tt1 te ds1 (wipeE e3 vs1) = .ok (f d) e4 ∧ vs.all (imAt e4) = true ∧ wipeE e4 vs = e) →
    compL2 vs vs1 t tt fi1 t1 tt1 te ds e = .ok (ds.flatMap f) e
  | [], _ => rfl
  | d :: ds, h => by
    obtain ⟨e1, e2, ds1, e3, e4, a1, a2, a3, a4, a5, a6, a7⟩ := h d List.mem_cons_self
    have ih := compL2_eq (ds := ds) fun d' hd => h d' (List.mem_cons_of_mem _ hd)
    unfold compL2
    simp only [a1, a2, a3, a4, a5, a6, a7, if_true, ih, List.flatMap_cons]
theorem compE2_eq {vs vs1 : List Nat} {fi fi1 : EM (List D)} {t t1 : D → EM Unit} {tt tt1 : EM Bool} {te : EM D} {e e0 : Env} {f : D → List D} {ds : List D} (hi : fi e = .ok ds e0) (hw : vs.all (imAt e0) = true) (hb : backE (wipeE e0 vs) e0 vs = e0) (hw2 : vs.all (imAt (wipeE e0 vs)) = true) (hl : (ds.flatMap f).length ≤ 1000000)
    (h : ∀ d ∈ ds, ∃ e1 e2 ds1 e3 e4, t d (wipeE e0 vs) = .ok () e1 ∧ tt e1 = .ok true e2 ∧ fi1 e2 = .ok ds1 e3 ∧ vs1.all (imAt e3) = true ∧ compL vs1 t1 tt1 te ds1 (wipeE e3 vs1) = .ok (f d) e4 ∧ vs.all (imAt e4) = true ∧ wipeE e4 vs = wipeE e0 vs) :
    compE2 vs vs1 fi t tt fi1 t1 tt1 te e = .ok (.list (ds.flatMap f)) e0 := by
  unfold compE2 bnd
  rw [hi]
  simp only [hw, if_true, compL2_eq h, hw2, Bool.and_true]
  rw [if_pos (few_le' hl), hb]
/-- a for that goes through, each turn leaving the same but the targets -/
theorem loopS_inv {t : D → EM Unit} {g : EM Flow} (I : List D → Env → Prop) : ∀ {ds : List D} {e : Env}, I ds e → (∀ d r e, (∃ l, ds = l ++ d :: r) → I (d :: r) e → ∃ e1 e2, t d e = .ok () e1 ∧ (g e1 = .ok .nxt e2 ∨ g e1 = .ok .cnt e2) ∧ I r e2) → ∃ e', loopS t g ds e = .ok .nxt e' ∧ I [] e'
  | [], e, h, _ => ⟨e, rfl, h⟩
  | d :: ds, e, h, st => by
    obtain ⟨e1, e2, a1, a2, a3⟩ := st d ds e ⟨[], rfl⟩ h
    obtain ⟨e', b1, b2⟩ := loopS_inv I (ds := ds) a3 fun d' r e' ⟨l, hl⟩ => st d' r e' ⟨d :: l, by rw [hl]; rfl⟩
    refine ⟨e', ?_, b2⟩
    unfold loopS
    rw [a1]
    rcases a2 with a2 | a2 <;> simp only [a2, b1]
theorem seqS_nxt {g1 g2 : EM Flow} {e e' : Env} (h : g1 e = .ok .nxt e') : seqS g1 g2 e = g2 e' := by
  unfold seqS
  rw [h]
theorem seqS_ret {g1 g2 : EM Flow} {e e' : Env} {m : M} (h : g1 e = .ok (.ret m) e') : seqS g1 g2 e = .ok (.ret m) e' := by
  unfold seqS
  rw [h]
/-- what the source of a for gives -/
theorem forS_eq {fi : EM (List D)} {t : D → EM Unit} {g : EM Flow} {e e0 : Env} {ds : List D} (h : fi e = .ok ds e0) : forS fi t g e = loopS t g ds e0 := by
  unfold forS bnd
  rw [h]
end FD

/-! FD: denotations run forward: what is wanted behind a part, as a question at its beginning; simp goes step by step. -/
namespace FD
open PySem L2
abbrev EX := Addr → List (Str × D) → Env → Prop
def wp {α : Type} (f : EM α) (e : Env) (Q : α → Env → Prop) (E : EX) : Prop := match f e with
  | .ok a e' => Q a e'
  | .ex C fs e' => E C fs e'
  | .no => False
def wpo {α : Type} (o : Option α) (Q : α → Env → Prop) (e : Env) : Prop := match o with
  | some a => Q a e
  | none => False
@[irreducible] def wpR (o : FOut) (K : M → List M → Prop) : Prop := match o with
  | .ok r ms => K r ms
  | _ => False
theorem wp_eq {α : Type} {f : EM α} {e e' : Env} {a : α} (h : wp f e (fun x y => x = a ∧ y = e') (fun _ _ _ => False)) : f e = .ok a e' := by
  unfold wp at h
  split at h
  · rename_i x y q; rw [q, h.1, h.2]
  · exact h.elim
  · exact h.elim
theorem wpR_eq {o : FOut} {r : M} {ms : List M} (h : wpR o fun x y => x = r ∧ y = ms) : o = .ok r ms := by
  unfold wpR at h
  split at h
  · rw [h.1, h.2]
  · exact h.elim
theorem wpR_ex {o : FOut} {K : M → List M → Prop} (h : wpR o K) : ∃ r ms, o = .ok r ms ∧ K r ms := by
  unfold wpR at h
  split at h
  · exact ⟨_, _, rfl, h⟩
  · exact h.elim
theorem wp_mono {α : Type} {f : EM α} {e : Env} {Q Q' : α → Env → Prop} {E : EX} (h : wp f e Q E) (w : ∀ a e', Q a e' → Q' a e') : wp f e Q' E := by
  unfold wp at h ⊢
  split at h
  · exact w _ _ h
  · exact h
  · exact h
theorem wpR_mono {o : FOut} {K K' : M → List M → Prop} (h : wpR o K) (w : ∀ a e', K a e' → K' a e') : wpR o K' := by
  unfold wpR at h ⊢
  split at h
  · exact w _ _ h
  · exact h
section
variable {α β : Type} {Q : α → Env → Prop} {E : EX} {e : Env}
@[simp] theorem wp_bnd {f : EM β} {k : β → EM α} : wp (bnd f k) e Q E = wp f e (fun a e1 => wp (k a) e1 Q E) E := by
  unfold wp bnd
  cases f e <;> rfl
@[simp] theorem wp_ret {a : α} : wp (ret a) e Q E = Q a e := rfl
@[simp] theorem wp_lif {o : Option α} : wp (lif o) e Q E = wpo o Q e := by cases o <;> rfl
@[simp] theorem wpo_some {a : α} : wpo (some a) Q e = Q a e := rfl
@[simp] theorem wpo_none : wpo (none : Option α) Q e = False := rfl
@[simp] theorem wpo_if {c : Prop} [Decidable c] {a : α} : wpo (if c then some a else none) Q e = (c ∧ Q a e) := by
  by_cases h : c
  · rw [if_pos h]; simp [wpo, h]
  · rw [if_neg h]; simp [wpo, h]
@[simp] theorem wpR_ok {r : M} {ms : List M} {K : M → List M → Prop} : wpR (.ok r ms) K = K r ms := by unfold wpR; rfl
end
section
variable {Q : D → Env → Prop} {QB : Bool → Env → Prop} {QL : List D → Env → Prop} {QO : Option Int → Env → Prop} {QA : List AR → Env → Prop} {QM : M → Env → Prop} {QS : Flow → Env → Prop} {QU : Unit → Env → Prop} {E : EX} {e : Env}
variable {f fa fb fc : EM D} {g : D → D → Option D} {t ta tb : EM Bool} {fs : EM (List D)}
/-! ### values -/
def kVar (i : Nat) (Q : D → Env → Prop) (e : Env) : Option (Option M) → Prop
  | some (some (.im d)) => Q d e
  | some (some m) => wpo m.toD (fun d _ => Q d (e.set i (some (.im d)))) e
  | _ => False
@[simp] theorem wp_var {i : Nat} : wp (var i) e Q E = kVar i Q e e[i]? := by
  unfold wp var
  cases h : e[i]? with
  | none => rfl
  | some o => cases o with
    | none => rfl
    | some m =>
      cases m with
      | im d => rfl
      | ls ms => simp only [kVar]; cases M.toD (.ls ms) <;> rfl
      | dk ms => simp only [kVar]; cases M.toD (.dk ms) <;> rfl
      | dt ms => simp only [kVar]; cases M.toD (.dt ms) <;> rfl
      | ob C ms => simp only [kVar]; cases M.toD (.ob C ms) <;> rfl
@[simp] theorem kVar_im {i : Nat} {d : D} : kVar i Q e (some (some (.im d))) = Q d e := rfl
def kFrz (i : Nat) (Q : D → Env → Prop) : D → Env → Prop := fun d e => Q d (e.set i (some (.im d)))
@[simp] theorem kFrz_at {i : Nat} {d : D} : kFrz i Q d e = Q d (e.set i (some (.im d))) := rfl
@[simp] theorem kVar_ls {i : Nat} {ms : List M} : kVar i Q e (some (some (.ls ms))) = wpo (M.ls ms).toD (kFrz i Q) e := by unfold kVar wpo kFrz; rfl
@[simp] theorem kVar_dk {i : Nat} {ms : List (Key × M)} : kVar i Q e (some (some (.dk ms))) = wpo (M.dk ms).toD (kFrz i Q) e := by unfold kVar wpo kFrz; rfl
@[simp] theorem kVar_dt {i : Nat} {ms : List (List Key × M)} : kVar i Q e (some (some (.dt ms))) = wpo (M.dt ms).toD (kFrz i Q) e := by unfold kVar wpo kFrz; rfl
def kBin1 (g : D → D → Option D) (fb : EM D) (Q : D → Env → Prop) (E : EX) : D → Env → Prop := fun x e1 => wp fb e1 (fun y e2 => wpo (g x y) Q e2) E
def kBin2 (g : D → D → Option D) (x : D) (Q : D → Env → Prop) : D → Env → Prop := fun y e2 => wpo (g x y) Q e2
@[simp] theorem wp_bin : wp (bin g fa fb) e Q E = wp fa e (kBin1 g fb Q E) E := by
  unfold bin; rw [wp_bnd]; congr; funext x e1; rw [wp_bnd]; unfold kBin1; congr; funext y e2; rw [wp_lif]
@[simp] theorem kBin1_at {x : D} {e1 : Env} : kBin1 g fb Q E x e1 = wp fb e1 (kBin2 g x Q) E := rfl
@[simp] theorem kBin2_at {x y : D} {e2 : Env} : kBin2 g x Q y e2 = wpo (g x y) Q e2 := rfl
def kUn (g : D → Option D) (Q : D → Env → Prop) : D → Env → Prop := fun x e1 => wpo (g x) Q e1
@[simp] theorem wp_un {g : D → Option D} : wp (un g fa) e Q E = wp fa e (kUn g Q) E := by
  unfold un; rw [wp_bnd]; congr; funext x e1; rw [wp_lif]; rfl
@[simp] theorem kUn_at {g : D → Option D} {x : D} {e1 : Env} : kUn g Q x e1 = wpo (g x) Q e1 := rfl
def kTst (Q : Bool → Env → Prop) : D → Env → Prop := fun d e => match d with
  | .bool b => Q b e
  | _ => False
@[simp] theorem wp_tst : wp (tst f) e QB E = wp f e (kTst QB) E := by
  unfold tst; rw [wp_bnd]; congr; funext x e1; cases x <;> rfl
@[simp] theorem kTst_at {b : Bool} {e1 : Env} : kTst QB (.bool b) e1 = QB b e1 := rfl
def kIf {α : Type} (x y : EM α) (Q : α → Env → Prop) (E : EX) : Bool → Env → Prop := fun b e => if b then wp x e Q E else wp y e Q E
@[simp] theorem kIf_t {α : Type} {x y : EM α} {Q : α → Env → Prop} {e1 : Env} : kIf x y Q E true e1 = wp x e1 Q E := rfl
@[simp] theorem kIf_f {α : Type} {x y : EM α} {Q : α → Env → Prop} {e1 : Env} : kIf x y Q E false e1 = wp y e1 Q E := rfl
theorem wp_kif {α : Type} {x y : EM α} {Q : α → Env → Prop} {b : Bool} {e1 : Env} : wp (if b then x else y) e1 Q E = kIf x y Q E b e1 := by cases b <;> rfl
@[simp] theorem wp_andT : wp (andT ta tb) e QB E = wp ta e (kIf tb (ret false) QB E) E := by
  unfold andT; rw [wp_bnd]; congr; funext x e1; exact wp_kif
@[simp] theorem wp_orT : wp (orT ta tb) e QB E = wp ta e (kIf (ret true) tb QB E) E := by
  unfold orT; rw [wp_bnd]; congr; funext x e1; exact wp_kif
def kNot (Q : Bool → Env → Prop) : Bool → Env → Prop := fun b e => Q (!b) e
@[simp] theorem wp_notT : wp (notT ta) e QB E = wp ta e (kNot QB) E := by
  unfold notT; rw [wp_bnd]; rfl
@[simp] theorem kNot_at {b : Bool} {e1 : Env} : kNot QB b e1 = QB (!b) e1 := rfl
def kBV (x y : EM D) (Q : D → Env → Prop) (E : EX) : D → Env → Prop := fun d e => match d with
  | .bool b => kIf x y Q E b e
  | _ => False
@[simp] theorem kBV_at {x y : EM D} {b : Bool} {e1 : Env} : kBV x y Q E (.bool b) e1 = kIf x y Q E b e1 := rfl
@[simp] theorem wp_andV : wp (andV fa fb) e Q E = wp fa e (kBV fb (ret (.bool false)) Q E) E := by
  unfold andV; rw [wp_bnd]; congr; funext x e1; cases x <;> first | rfl | (rename_i b; cases b <;> rfl)
@[simp] theorem wp_orV : wp (orV fa fb) e Q E = wp fa e (kBV (ret (.bool true)) fb Q E) E := by
  unfold orV; rw [wp_bnd]; congr; funext x e1; cases x <;> first | rfl | (rename_i b; cases b <;> rfl)
def kNotV (Q : D → Env → Prop) : D → Env → Prop := fun d e => match d with
  | .bool b => Q (.bool (!b)) e
  | _ => False
@[simp] theorem wp_notV : wp (notV fa) e Q E = wp fa e (kNotV Q) E := by
  unfold notV; rw [wp_bnd]; congr; funext x e1; cases x <;> rfl
@[simp] theorem kNotV_at {b : Bool} {e1 : Env} : kNotV Q (.bool b) e1 = Q (.bool (!b)) e1 := rfl
@[simp] theorem wp_ifE : wp (ifE t fa fb) e Q E = wp t e (kIf fa fb Q E) E := by
  unfold ifE; rw [wp_bnd]; congr; funext x e1; exact wp_kif
def kChn1 (g g' : D → D → Option D) (fb fc : EM D) (Q : D → Env → Prop) (E : EX) : D → Env → Prop := fun x e1 => wp fb e1 (fun y e2 => wpo (g x y) (kBV (fun e => bnd fc (fun z => lif (g' y z)) e) (ret (.bool false)) Q E) e2) E
def kChn2 (g g' : D → D → Option D) (fc : EM D) (x : D) (Q : D → Env → Prop) (E : EX) : D → Env → Prop := fun y e2 => wpo (g x y) (kBV (fun e => bnd fc (fun z => lif (g' y z)) e) (ret (.bool false)) Q E) e2
@[simp] theorem wp_chn {g g' : D → D → Option D} : wp (chn g g' fa fb fc) e Q E = wp fa e (kChn1 g g' fb fc Q E) E := by
  unfold chn; rw [wp_bnd]; congr; funext x e1; rw [wp_bnd]; unfold kChn1; congr; funext y e2; rw [wp_bnd, wp_lif]; congr; funext k e3
  cases k <;> first | rfl | (rename_i b; cases b <;> rfl)
@[simp] theorem kChn1_at {g g' : D → D → Option D} {x : D} {e1 : Env} : kChn1 g g' fb fc Q E x e1 = wp fb e1 (kChn2 g g' fc x Q E) E := rfl
@[simp] theorem kChn2_at {g g' : D → D → Option D} {x y : D} {e1 : Env} : kChn2 g g' fc x Q E y e1 = wpo (g x y) (kBV (bin g' (ret y) fc) (ret (.bool false)) Q E) e1 := rfl
/-! ### rows -/
@[simp] theorem wp_nilA : wp nilA e QL E = QL [] e := rfl
def kCons1 (fs : EM (List D)) (Q : List D → Env → Prop) (E : EX) : D → Env → Prop := fun d e1 => wp fs e1 (fun ds e2 => Q (d :: ds) e2) E
def kCons2 (d : D) (Q : List D → Env → Prop) : List D → Env → Prop := fun ds e2 => Q (d :: ds) e2
@[simp] theorem wp_consA : wp (consA f fs) e QL E = wp f e (kCons1 fs QL E) E := by
  unfold consA; rw [wp_bnd]; congr; funext x e1; rw [wp_bnd]; rfl
@[simp] theorem kCons1_at {d : D} {e1 : Env} : kCons1 fs QL E d e1 = wp fs e1 (kCons2 d QL) E := rfl
@[simp] theorem kCons2_at {d : D} {ds : List D} {e1 : Env} : kCons2 d QL ds e1 = QL (d :: ds) e1 := rfl
def kRow (g : List D → Option D) (Q : D → Env → Prop) : List D → Env → Prop := fun ds e => wpo (g ds) Q e
@[simp] theorem kRow_at {g : List D → Option D} {ds : List D} {e1 : Env} : kRow g Q ds e1 = wpo (g ds) Q e1 := rfl
def mkT (ds : List D) : Option D := if few ds.length then some (.tuple ds) else none
def mkL (ds : List D) : Option D := if few ds.length then some (.list ds) else none
@[simp] theorem wp_tupE : wp (tupE fs) e Q E = wp fs e (kRow mkT Q) E := by
  unfold tupE; rw [wp_bnd]; congr; funext x e1; rw [wp_lif]; rfl
@[simp] theorem wp_lstE : wp (lstE fs) e Q E = wp fs e (kRow mkL Q) E := by
  unfold lstE; rw [wp_bnd]; congr; funext x e1; rw [wp_lif]; rfl
@[simp] theorem wpo_mkT {ds : List D} : wpo (mkT ds) Q e = (ds.length ≤ 1000000 ∧ Q (.tuple ds) e) := by
  unfold mkT; rw [wpo_if]; simp [few]
@[simp] theorem wpo_mkL {ds : List D} : wpo (mkL ds) Q e = (ds.length ≤ 1000000 ∧ Q (.list ds) e) := by
  unfold mkL; rw [wpo_if]; simp [few]
@[simp] theorem wp_cbE {g : List D → Option D} : wp (cbE g fs) e Q E = wp fs e (kRow g Q) E := by
  unfold cbE; rw [wp_bnd]; congr; funext x e1; rw [wp_lif]; rfl
def kInt (Q : Option Int → Env → Prop) : D → Env → Prop := fun d e => match d with
  | .int i => Q (some i) e
  | _ => False
@[simp] theorem wp_intE : wp (intE f) e QO E = wp f e (kInt QO) E := by
  unfold intE; rw [wp_bnd]; congr; funext x e1; cases x <;> rfl
@[simp] theorem kInt_at {i : Int} {e1 : Env} : kInt QO (.int i) e1 = QO (some i) e1 := rfl
def kSl1 (fl fh : EM (Option Int)) (Q : D → Env → Prop) (E : EX) : D → Env → Prop := fun d e1 => wp fl e1 (fun lo e2 => wp fh e2 (fun hi e3 => wpo (slD d lo hi) Q e3) E) E
def kSl2 (fh : EM (Option Int)) (d : D) (Q : D → Env → Prop) (E : EX) : Option Int → Env → Prop := fun lo e2 => wp fh e2 (fun hi e3 => wpo (slD d lo hi) Q e3) E
def kSl3 (d : D) (lo : Option Int) (Q : D → Env → Prop) : Option Int → Env → Prop := fun hi e3 => wpo (slD d lo hi) Q e3
@[simp] theorem wp_slE {fl fh : EM (Option Int)} : wp (slE fa fl fh) e Q E = wp fa e (kSl1 fl fh Q E) E := by
  unfold slE; rw [wp_bnd]; congr; funext x e1; rw [wp_bnd]; unfold kSl1; congr; funext x e1; rw [wp_bnd]; congr; funext x e1; rw [wp_lif]
@[simp] theorem kSl1_at {fl fh : EM (Option Int)} {d : D} {e1 : Env} : kSl1 fl fh Q E d e1 = wp fl e1 (kSl2 fh d Q E) E := rfl
@[simp] theorem kSl2_at {fh : EM (Option Int)} {d : D} {lo : Option Int} {e1 : Env} : kSl2 fh d Q E lo e1 = wp fh e1 (kSl3 d lo Q) E := rfl
@[simp] theorem kSl3_at {d : D} {lo hi : Option Int} {e1 : Env} : kSl3 d lo Q hi e1 = wpo (slD d lo hi) Q e1 := rfl
def kIt (g : D → Option (List D)) (Q : List D → Env → Prop) : D → Env → Prop := fun d e => wpo (g d) Q e
@[simp] theorem wp_itE {g : D → Option (List D)} : wp (itE g f) e QL E = wp f e (kIt g QL) E := by
  unfold itE; rw [wp_bnd]; congr; funext x e1; rw [wp_lif]; rfl
@[simp] theorem kIt_at {g : D → Option (List D)} {d : D} {e1 : Env} : kIt g QL d e1 = wpo (g d) QL e1 := rfl
def kItA (g : List D → Option (List D)) (Q : List D → Env → Prop) : List D → Env → Prop := fun d e => wpo (g d) Q e
@[simp] theorem wp_itA {g : List D → Option (List D)} : wp (itA g fs) e QL E = wp fs e (kItA g QL) E := by
  unfold itA; rw [wp_bnd]; congr; funext x e1; rw [wp_lif]; rfl
@[simp] theorem kItA_at {g : List D → Option (List D)} {d : List D} {e1 : Env} : kItA g QL d e1 = wpo (g d) QL e1 := rfl
/-! ### calls -/
@[simp] theorem wp_arN : wp arN e QA E = QA [] e := rfl
def kAr1 (fr : EM (List AR)) (Q : List AR → Env → Prop) (E : EX) : D → Env → Prop := fun d e1 => wp fr e1 (fun as e2 => Q (.d d :: as) e2) E
def kAr2 (a : AR) (Q : List AR → Env → Prop) : List AR → Env → Prop := fun as e2 => Q (a :: as) e2
@[simp] theorem wp_arD {fr : EM (List AR)} : wp (arD f fr) e QA E = wp f e (kAr1 fr QA E) E := by
  unfold arD; rw [wp_bnd]; congr; funext x e1; rw [wp_bnd]; rfl
@[simp] theorem kAr1_at {fr : EM (List AR)} {d : D} {e1 : Env} : kAr1 fr QA E d e1 = wp fr e1 (kAr2 (.d d) QA) E := rfl
@[simp] theorem kAr2_at {a : AR} {as : List AR} {e1 : Env} : kAr2 a QA as e1 = QA (a :: as) e1 := rfl
@[simp] theorem wp_arB {s : Nat} {fr : EM (List AR)} : wp (arB s fr) e QA E = ((∃ m, e[s]? = some (some m)) ∧ wp fr e (kAr2 (.b s) QA) E) := by
  unfold arB wp
  cases h : e[s]? with
  | none => simp [h]
  | some o => cases o with
    | none => simp [h]
    | some m =>
      simp only [bnd, h]
      cases fr e <;> simp [ret, kAr2]
def kKw1 (n m : Nat) (ix : List (Nat ⊕ Nat)) (ds : List D) (frk : EM (List AR)) (Q : List AR → Env → Prop) (E : EX) : List AR → Env → Prop := fun as e1 => wp frk e1 (fun bs e2 => as.length = n ∧ bs.length = m ∧ Q (pick (as ++ bs) (ds.map .d) ix) e2) E
def kKw2 (n m : Nat) (ix : List (Nat ⊕ Nat)) (ds : List D) (as : List AR) (Q : List AR → Env → Prop) : List AR → Env → Prop := fun bs e2 => as.length = n ∧ bs.length = m ∧ Q (pick (as ++ bs) (ds.map .d) ix) e2
@[simp] theorem wp_kwA {n m : Nat} {ix : List (Nat ⊕ Nat)} {ds : List D} {fr frk : EM (List AR)} : wp (kwA n m ix ds fr frk) e QA E = wp fr e (kKw1 n m ix ds frk QA E) E := by
  unfold kwA; rw [wp_bnd]; congr; funext x e1; rw [wp_bnd]; unfold kKw1; congr; funext y e2; rw [wp_lif, wpo_if]; simp [and_assoc]
@[simp] theorem kKw1_at {n m : Nat} {ix : List (Nat ⊕ Nat)} {ds : List D} {frk : EM (List AR)} {as : List AR} {e1 : Env} : kKw1 n m ix ds frk QA E as e1 = wp frk e1 (kKw2 n m ix ds as QA) E := rfl
@[simp] theorem kKw2_at {n m : Nat} {ix : List (Nat ⊕ Nat)} {ds : List D} {as bs : List AR} {e1 : Env} : kKw2 n m ix ds as QA bs e1 = (as.length = n ∧ bs.length = m ∧ QA (pick (as ++ bs) (ds.map .d) ix) e1) := rfl
def kCall (Fs : List M → FOut) (Q : M → Env → Prop) : List AR → Env → Prop := fun as e => (slotsOf as).Nodup ∧ ∃ ms, argM e as = some ms ∧ wpR (Fs ms) fun r ms' => ms'.length = ms.length ∧ Q r (putB e as ms')
def kGo (as : List AR) (n : Nat) (Q : M → Env → Prop) (e : Env) : M → List M → Prop := fun r ms' => ms'.length = n ∧ Q r (putB e as ms')
def kCall2 (Fs : List M → FOut) (as : List AR) (Q : M → Env → Prop) (e : Env) : Option (List M) → Prop
  | some ms => wpR (Fs ms) (kGo as ms.length Q e)
  | none => False
@[simp] theorem wp_callM {Fs : List M → FOut} {fr : EM (List AR)} : wp (callM Fs fr) e QM E = wp fr e (kCall Fs QM) E := by
  unfold callM; rw [wp_bnd]; congr; funext as e1
  unfold wp kCall
  by_cases h : (slotsOf as).Nodup
  · simp only [h, if_true, true_and]
    cases q : argM e1 as with
    | none => simp
    | some ms =>
      simp only [Option.some.injEq, exists_eq_left']
      unfold wpR
      cases z : Fs ms with
      | ok r ms' =>
        by_cases hl : ms'.length = ms.length <;> simp [hl]
      | ex => rfl
      | no => rfl
  · simp [h]
@[simp] theorem kCall_at {Fs : List M → FOut} {as : List AR} {e1 : Env} : kCall Fs QM as e1 = ((slotsOf as).Nodup ∧ kCall2 Fs as QM e1 (argM e1 as)) := by
  unfold kCall
  cases q : argM e1 as with
  | none => simp [kCall2]
  | some ms => simp only [Option.some.injEq, exists_eq_left']; rfl
@[simp] theorem kCall2_at {Fs : List M → FOut} {as : List AR} {e1 : Env} {ms : List M} : kCall2 Fs as QM e1 (some ms) = wpR (Fs ms) (kGo as ms.length QM e1) := rfl
@[simp] theorem kGo_at {as : List AR} {n : Nat} {r : M} {ms : List M} : kGo as n QM e r ms = (ms.length = n ∧ QM r (putB e as ms)) := rfl
def kToD (Q : D → Env → Prop) : M → Env → Prop := fun m e => wpo m.toD Q e
@[simp] theorem wp_callD {Fs : List M → FOut} {fr : EM (List AR)} : wp (callD Fs fr) e Q E = wp fr e (kCall Fs (kToD Q)) E := by
  unfold callD; rw [wp_bnd, ← wp_callM]; congr; funext x e1; rw [wp_lif]; rfl
@[simp] theorem kToD_im {d : D} {e1 : Env} : kToD Q (.im d) e1 = Q d e1 := rfl
@[simp] theorem kToD_at {m : M} {e1 : Env} : kToD Q m e1 = wpo m.toD Q e1 := rfl
@[simp] theorem wp_frzE {fm : EM M} : wp (frzE fm) e Q E = wp fm e (kToD Q) E := by
  unfold frzE; rw [wp_bnd]; congr; funext x e1; rw [wp_lif]; rfl
/-! ### owned things -/
def mkLs (ds : List D) : Option M := if few ds.length then some (.ls (ds.map .im)) else none
def kRowM (g : List D → Option M) (Q : M → Env → Prop) : List D → Env → Prop := fun ds e => wpo (g ds) Q e
@[simp] theorem kRowM_at {g : List D → Option M} {ds : List D} {e1 : Env} : kRowM g QM ds e1 = wpo (g ds) QM e1 := rfl
@[simp] theorem wp_lstM : wp (lstM fs) e QM E = wp fs e (kRowM mkLs QM) E := by
  unfold lstM; rw [wp_bnd]; congr; funext x e1; unfold kRowM mkLs
  by_cases h : few x.length = true <;> simp only [h, if_true, if_false] <;> rfl
@[simp] theorem wpo_mkLs {ds : List D} : wpo (mkLs ds) QM e = (ds.length ≤ 1000000 ∧ QM (.ls (ds.map .im)) e) := by
  unfold mkLs; rw [wpo_if]; simp [few]
@[simp] theorem wp_dtM : wp dtM e QM E = QM (.dt []) e := rfl
@[simp] theorem wp_dkM : wp dkM e QM E = QM (.dk []) e := rfl
def kImM (Q : M → Env → Prop) : D → Env → Prop := fun d e => Q (.im d) e
@[simp] theorem wp_imM : wp (imM f) e QM E = wp f e (kImM QM) E := by unfold imM; rw [wp_bnd]; rfl
@[simp] theorem kImM_at {d : D} {e1 : Env} : kImM QM d e1 = QM (.im d) e1 := rfl
def kCat1 (fb : EM D) (Q : M → Env → Prop) (E : EX) : D → Env → Prop := fun x e1 => wp fb e1 (fun y e2 => match x, y with
  | .list xs, .list ys => few (xs.length + ys.length) = true ∧ Q (.ls ((xs ++ ys).map .im)) e2
  | _, _ => False) E
@[simp] theorem wp_catM : wp (catM fa fb) e QM E = wp fa e (kCat1 fb QM E) E := by
  unfold catM; rw [wp_bnd]; congr; funext x e1; rw [wp_bnd]; unfold kCat1; congr; funext y e2
  cases x <;> try rfl
  cases y <;> try rfl
  rename_i xs ys
  by_cases h : few (xs.length + ys.length) = true
  · simp only [h, if_true, true_and]; rfl
  · show wp (if few (xs.length + ys.length) = true then ret (M.ls (List.map M.im (xs ++ ys))) else fun x => Out.no) e2 QM E = (few (xs.length + ys.length) = true ∧ QM (M.ls (List.map M.im (xs ++ ys))) e2)
    rw [if_neg h]; exact propext ⟨fun z => z.elim, fun z => h z.1⟩
def kCat2 (xs : List D) (Q : M → Env → Prop) : D → Env → Prop := fun y e2 => match y with
  | .list ys => few (xs.length + ys.length) = true ∧ Q (.ls ((xs ++ ys).map .im)) e2
  | _ => False
@[simp] theorem kCat1_at {xs : List D} {e1 : Env} : kCat1 fb QM E (.list xs) e1 = wp fb e1 (kCat2 xs QM) E := by
  unfold kCat1; congr; funext y e2; cases y <;> rfl
@[simp] theorem kCat2_at {xs ys : List D} {e1 : Env} : kCat2 xs QM (.list ys) e1 = (xs.length + ys.length ≤ 1000000 ∧ QM (.ls ((xs ++ ys).map .im)) e1) := by simp [kCat2, few]
@[simp] theorem wp_chk {α : Type} {i : Nat} {g : EM α} {Q : α → Env → Prop} : wp (chk i g) e Q E = (has i e = true ∧ wp g e Q E) := by
  unfold wp chk
  by_cases h : has i e = true <;> simp [h]
def kPk {α : Type} (i : Nat) (g : D → Option α) (Q : α → Env → Prop) (e : Env) : Option D → Prop
  | some d => wpo (g d) Q e
  | none => False
@[simp] theorem wp_pk {α : Type} {i : Nat} {g : D → Option α} {Q : α → Env → Prop} : wp (pk i g) e Q E = kPk i g Q e (peekD i e) := by
  unfold wp pk
  cases peekD i e with
  | none => rfl
  | some d => simp only [kPk]; cases g d <;> rfl
@[simp] theorem kPk_at {α : Type} {i : Nat} {g : D → Option α} {Q : α → Env → Prop} {d : D} : kPk i g Q e (some d) = wpo (g d) Q e := rfl
def kPkL (i : Nat) (g : D → D → Option D) (Q : D → Env → Prop) : D → Env → Prop := fun y e => kPk i (fun d => g d y) Q e (peekD i e)
@[simp] theorem wp_pkL {i : Nat} : wp (pkL i g fb) e Q E = (has i e = true ∧ wp fb e (kPkL i g Q) E) := by
  unfold pkL; rw [wp_chk, wp_bnd]; congr; funext x e1; rw [wp_pk]; rfl
@[simp] theorem kPkL_at {i : Nat} {y : D} {e1 : Env} : kPkL i g Q y e1 = kPk i (fun d => g d y) Q e1 (peekD i e1) := rfl
def kPkR (i : Nat) (g : D → D → Option D) (Q : D → Env → Prop) : D → Env → Prop := fun y e => has i e = true ∧ kPk i (fun d => g y d) Q e (peekD i e)
@[simp] theorem wp_pkR {i : Nat} : wp (pkR i g fa) e Q E = wp fa e (kPkR i g Q) E := by
  unfold pkR; rw [wp_bnd]; congr; funext x e1; rw [wp_chk, wp_pk]; rfl
@[simp] theorem kPkR_at {i : Nat} {y : D} {e1 : Env} : kPkR i g Q y e1 = (has i e1 = true ∧ kPk i (fun d => g y d) Q e1 (peekD i e1)) := rfl
@[simp] theorem wp_pkLen {i : Nat} : wp (pkLen i) e Q E = (has i e = true ∧ kPk i (fun d => lenD [d]) Q e (peekD i e)) := by
  unfold pkLen; rw [wp_chk, wp_pk]
def kIxA (i : Nat) (Q : D → Env → Prop) : D → Env → Prop := fun y e => wpo (itemA i y e) Q e
@[simp] theorem wp_pkIxA {i : Nat} : wp (pkIxA i fb) e Q E = (has i e = true ∧ wp fb e (kIxA i Q) E) := by
  unfold pkIxA; rw [wp_chk, wp_bnd]; congr; funext x e1; unfold wp; cases h : itemA i x e1 <;> simp [kIxA, lif, h, wpo]
@[simp] theorem kIxA_at {i : Nat} {y : D} {e1 : Env} : kIxA i Q y e1 = wpo (itemA i y e1) Q e1 := rfl
/-! ### statements -/
def kSeq (g : EM Flow) (Q : Flow → Env → Prop) (E : EX) : Flow → Env → Prop
  | .nxt, e => wp g e Q E
  | fl, e => Q fl e
@[simp] theorem wp_seqS {g1 g2 : EM Flow} : wp (seqS g1 g2) e QS E = wp g1 e (kSeq g2 QS E) E := by
  unfold wp seqS
  cases g1 e with
  | ok a e' => cases a <;> rfl
  | ex => rfl
  | no => rfl
@[simp] theorem kSeq_nxt {g2 : EM Flow} : kSeq g2 QS E .nxt e = wp g2 e QS E := rfl
@[simp] theorem kSeq_ret {g2 : EM Flow} {m : M} : kSeq g2 QS E (.ret m) e = QS (.ret m) e := rfl
@[simp] theorem kSeq_brk {g2 : EM Flow} : kSeq g2 QS E .brk e = QS .brk e := rfl
@[simp] theorem kSeq_cnt {g2 : EM Flow} : kSeq g2 QS E .cnt e = QS .cnt e := rfl
def kEx (Q : Flow → Env → Prop) : D → Env → Prop := fun _ e => Q .nxt e
@[simp] theorem wp_exprS : wp (exprS f) e QS E = wp f e (kEx QS) E := by unfold exprS; rw [wp_bnd]; rfl
@[simp] theorem kEx_at {d : D} {e1 : Env} : kEx QS d e1 = QS .nxt e1 := rfl
def kRt (Q : Flow → Env → Prop) : D → Env → Prop := fun d e => Q (.ret (.im d)) e
@[simp] theorem wp_retS : wp (retS f) e QS E = wp f e (kRt QS) E := by unfold retS; rw [wp_bnd]; rfl
@[simp] theorem kRt_at {d : D} {e1 : Env} : kRt QS d e1 = QS (.ret (.im d)) e1 := rfl
def kRtM (Q : Flow → Env → Prop) : M → Env → Prop := fun d e => Q (.ret d) e
@[simp] theorem wp_retM {fm : EM M} : wp (retM fm) e QS E = wp fm e (kRtM QS) E := by unfold retM; rw [wp_bnd]; rfl
@[simp] theorem kRtM_at {d : M} {e1 : Env} : kRtM QS d e1 = QS (.ret d) e1 := rfl
@[simp] theorem wp_ifS {g1 g2 : EM Flow} : wp (ifS t g1 g2) e QS E = wp t e (kIf g1 g2 QS E) E := by
  unfold ifS; rw [wp_bnd]; congr; funext x e1; exact wp_kif
def kSet (i : Nat) (Q : Flow → Env → Prop) : D → Env → Prop := fun d e => i < e.length ∧ Q .nxt (e.set i (some (.im d)))
def kSetM (i : Nat) (Q : Flow → Env → Prop) : M → Env → Prop := fun d e => i < e.length ∧ Q .nxt (e.set i (some d))
@[simp] theorem wp_stoM {i : Nat} {m : M} : wp (stoM i m) e QS E = (i < e.length ∧ QS .nxt (e.set i (some m))) := by
  unfold wp stoM
  by_cases h : i < e.length <;> simp [h]
@[simp] theorem wp_setS {i : Nat} : wp (setS i f) e QS E = wp f e (kSet i QS) E := by unfold setS; rw [wp_bnd]; congr; funext x e1; exact wp_stoM
@[simp] theorem wp_setM {i : Nat} {fm : EM M} : wp (setM i fm) e QS E = wp fm e (kSetM i QS) E := by unfold setM; rw [wp_bnd]; congr; funext x e1; exact wp_stoM
@[simp] theorem kSet_at {i : Nat} {d : D} {e1 : Env} : kSet i QS d e1 = (i < e1.length ∧ QS .nxt (e1.set i (some (.im d)))) := rfl
@[simp] theorem kSetM_at {i : Nat} {d : M} {e1 : Env} : kSetM i QS d e1 = (i < e1.length ∧ QS .nxt (e1.set i (some d))) := rfl
@[simp] theorem wp_gN {i : Nat} {d : D} : wp (gN i d) e QU E = (i < e.length ∧ QU () (e.set i (some (.im d)))) := by
  unfold wp gN
  by_cases h : i < e.length <;> simp [h]
def kGs (u : List D → EM Unit) (ds : List D) (Q : Unit → Env → Prop) (E : EX) : Unit → Env → Prop := fun _ e => wp (u ds) e Q E
@[simp] theorem wp_gsNil : wp (gsNil []) e QU E = QU () e := rfl
@[simp] theorem wp_gsCons {t : D → EM Unit} {u : List D → EM Unit} {d : D} {ds : List D} : wp (gsCons t u (d :: ds)) e QU E = wp (t d) e (kGs u ds QU E) E := by
  unfold gsCons wp
  simp only [bnd]
  cases t d e <;> rfl
@[simp] theorem kGs_at {u : List D → EM Unit} {ds : List D} {x : Unit} {e1 : Env} : kGs u ds QU E x e1 = wp (u ds) e1 QU E := rfl
@[simp] theorem wp_gT {n : Nat} {u : List D → EM Unit} {ds : List D} : wp (gT n u (.tuple ds)) e QU E = (ds.length = n ∧ wp (u ds) e QU E) := by
  unfold wp gT
  by_cases h : ds.length = n <;> simp [h]
def kAsg (t : D → EM Unit) (Q : Flow → Env → Prop) (E : EX) : D → Env → Prop := fun d e => wp (t d) e (fun _ e1 => Q .nxt e1) E
def kNx (Q : Flow → Env → Prop) : Unit → Env → Prop := fun _ e => Q .nxt e
@[simp] theorem wp_asgS {t : D → EM Unit} : wp (asgS f t) e QS E = wp f e (kAsg t QS E) E := by unfold asgS; rw [wp_bnd]; congr; funext x e1; unfold goS; rw [wp_bnd]; rfl
@[simp] theorem kAsg_at {t : D → EM Unit} {d : D} {e1 : Env} : kAsg t QS E d e1 = wp (t d) e1 (kNx QS) E := rfl
@[simp] theorem kNx_at {x : Unit} {e1 : Env} : kNx QS x e1 = QS .nxt e1 := rfl
def kPar (u : List D → EM Unit) (Q : Flow → Env → Prop) (E : EX) : List D → Env → Prop := fun ds e => wp (u ds) e (kNx Q) E
@[simp] theorem wp_parS {u : List D → EM Unit} : wp (parS fs u) e QS E = wp fs e (kPar u QS E) E := by unfold parS; rw [wp_bnd]; congr; funext x e1; unfold goS; rw [wp_bnd]; rfl
@[simp] theorem kPar_at {u : List D → EM Unit} {ds : List D} {e1 : Env} : kPar u QS E ds e1 = wp (u ds) e1 (kNx QS) E := rfl
def kAug1 (i : Nat) (g : D → D → Option D) (f : EM D) (Q : Flow → Env → Prop) (E : EX) : D → Env → Prop := fun x e1 => wp f e1 (fun y e2 => wpo (g x y) (kSet i Q) e2) E
def kAug2 (i : Nat) (g : D → D → Option D) (x : D) (Q : Flow → Env → Prop) : D → Env → Prop := fun y e2 => wpo (g x y) (kSet i Q) e2
@[simp] theorem wp_augS {i : Nat} : wp (augS i g f) e QS E = wp (var i) e (kAug1 i g f QS E) E := by
  unfold augS; rw [wp_bnd]; congr; funext x e1; rw [wp_bnd]; unfold kAug1; congr; funext y e2; rw [wp_bnd, wp_lif]; congr; funext z e3; exact wp_stoM
@[simp] theorem kAug1_at {i : Nat} {x : D} {e1 : Env} : kAug1 i g f QS E x e1 = wp f e1 (kAug2 i g x QS) E := rfl
@[simp] theorem kAug2_at {i : Nat} {x y : D} {e1 : Env} : kAug2 i g x QS y e1 = wpo (g x y) (kSet i QS) e1 := rfl
def kApp (i : Nat) (Q : Flow → Env → Prop) : D → Env → Prop := fun d e => wp (appM i d) e Q (fun _ _ _ => False)
def kApp2 (i : Nat) (d : D) (Q : Flow → Env → Prop) (e : Env) : Option (Option M) → Prop
  | some (some (.ls ms)) => ms.length + 1 ≤ 1000000 ∧ Q .nxt (e.set i (some (.ls (ms ++ [.im d]))))
  | _ => False
@[simp] theorem wp_appS {i : Nat} : wp (appS i f) e QS E = (isLs i e = true ∧ wp f e (kApp i QS) E) := by
  unfold wp appS
  by_cases h : isLs i e = true
  · simp only [h, if_true, true_and, bnd]
    cases f e with
    | ok d e1 =>
      simp only [kApp, wp]
      cases q : appM i d e1 with
      | ok => rfl
      | ex =>
        exfalso
        unfold appM at q
        split at q
        · split at q <;> cases q
        · cases q
      | no => rfl
    | ex => rfl
    | no => rfl
  · simp [h]
@[simp] theorem kApp_at {i : Nat} {d : D} {e1 : Env} : kApp i QS d e1 = kApp2 i d QS e1 e1[i]? := by
  unfold kApp wp appM
  cases e1[i]? with
  | none => rfl
  | some o => cases o with
    | none => rfl
    | some m => cases m <;> try rfl
                rename_i ms
                simp only [kApp2]
                by_cases h : ms.length + 1 ≤ 1000000
                · simp [few, h]
                · simp [few, h]
@[simp] theorem kApp2_at {i : Nat} {d : D} {ms : List M} : kApp2 i d QS e (some (some (.ls ms))) = (ms.length + 1 ≤ 1000000 ∧ QS .nxt (e.set i (some (.ls (ms ++ [.im d]))))) := rfl
def kSto1 (i : Nat) (fk : EM D) (Q : Flow → Env → Prop) (E : EX) : D → Env → Prop := fun d e => has i e = true ∧ wp fk e (fun k e1 => wp (storeM i k d) e1 Q E) E
def kSto2 (i : Nat) (d : D) (Q : Flow → Env → Prop) (E : EX) : D → Env → Prop := fun k e => wp (storeM i k d) e Q E
@[simp] theorem wp_storeS {i : Nat} {fk fv : EM D} : wp (storeS i fk fv) e QS E = wp fv e (kSto1 i fk QS E) E := by
  unfold storeS; rw [wp_bnd]; congr; funext x e1; rw [wp_chk, wp_bnd]; rfl
@[simp] theorem kSto1_at {i : Nat} {fk : EM D} {d : D} {e1 : Env} : kSto1 i fk QS E d e1 = (has i e1 = true ∧ wp fk e1 (kSto2 i d QS E) E) := rfl
@[simp] theorem kSto2_at {i : Nat} {d k : D} {e1 : Env} : kSto2 i d QS E k e1 = wp (storeM i k d) e1 QS E := rfl
/-! ### loops -/
def kFor (t : D → EM Unit) (g : EM Flow) (Q : Flow → Env → Prop) (E : EX) : List D → Env → Prop := fun ds e => wp (loopS t g ds) e Q E
@[simp] theorem wp_forS {fi : EM (List D)} {t : D → EM Unit} {g : EM Flow} : wp (forS fi t g) e QS E = wp fi e (kFor t g QS E) E := by unfold forS; rw [wp_bnd]; rfl
/-- behind a turn -/
def kTurn (N : Env → Prop) (Q : Flow → Env → Prop) : Flow → Env → Prop
  | .nxt, e => N e
  | .cnt, e => N e
  | .brk, e => Q .nxt e
  | .ret m, e => Q (.ret m) e
@[simp] theorem kTurn_nxt {N : Env → Prop} : kTurn N QS .nxt e = N e := rfl
@[simp] theorem kTurn_cnt {N : Env → Prop} : kTurn N QS .cnt e = N e := rfl
@[simp] theorem kTurn_brk {N : Env → Prop} : kTurn N QS .brk e = QS .nxt e := rfl
@[simp] theorem kTurn_ret {N : Env → Prop} {m : M} : kTurn N QS (.ret m) e = QS (.ret m) e := rfl
def kBody (g : EM Flow) (N : Env → Prop) (Q : Flow → Env → Prop) (E : EX) : Unit → Env → Prop := fun _ e => wp g e (kTurn N Q) E
@[simp] theorem kBody_at {g : EM Flow} {N : Env → Prop} {x : Unit} {e1 : Env} : kBody g N QS E x e1 = wp g e1 (kTurn N QS) E := rfl
theorem for_cons {t : D → EM Unit} {g : EM Flow} {d : D} {ds : List D} (h : wp (t d) e (kBody g (fun e1 => kFor t g QS E ds e1) QS E) (fun _ _ _ => False)) : kFor t g QS E (d :: ds) e := by
  unfold kFor wp
  rw [loopS]
  unfold wp at h
  cases q : t d e with
  | no => rw [q] at h; exact h.elim
  | ex => rw [q] at h; exact h.elim
  | ok u e1 =>
    rw [q] at h
    simp only [kBody, wp] at h
    simp only [q]
    cases z : g e1 with
    | no => rw [z] at h; exact h.elim
    | ex => rw [z] at h; exact h
    | ok fl e2 =>
      rw [z] at h
      cases fl <;> exact h
/-- a for by what holds behind the turns that are done -/
theorem for_inv {α : Type} {em : α → D} {as : List α} {t : D → EM Unit} {g : EM Flow} (I : List α → Env → Prop) (h0 : I [] e) (step : ∀ done a rest e, as = done ++ a :: rest → I done e → wp (t (em a)) e (kBody g (I (done ++ [a])) QS E) (fun _ _ _ => False)) (hq : ∀ e', I as e' → QS .nxt e') : kFor t g QS E (as.map em) e := by
  have key : ∀ (rest done : List α) (e : Env), as = done ++ rest → I done e → kFor t g QS E (rest.map em) e := by
    intro rest
    induction rest with
    | nil =>
      intro done e h i
      rw [List.append_nil] at h
      subst h
      exact hq e i
    | cons a rest ih =>
      intro done e h i
      rw [List.map_cons]
      refine for_cons (wp_mono (step done a rest e h i) fun u e1 hb => ?_)
      unfold kBody at hb ⊢
      refine wp_mono hb fun fl e2 hf => ?_
      cases fl
      · exact ih (done ++ [a]) e2 (by rw [h]; simp) hf
      · exact hf
      · exact ih (done ++ [a]) e2 (by rw [h]; simp) hf
      · exact hf
  exact key as [] e rfl h0
/-- a while by what holds at each test, at most so many turns -/
theorem while_inv {c : EM Bool} {g : EM Flow} (I : Env → Prop) (m : Env → Nat) {n : Nat} (h0 : I e) (hm : m e < n) (step : ∀ e, I e → wp c e (fun b e1 => if b then wp g e1 (kTurn (fun e2 => I e2 ∧ m e2 < m e) QS) E else QS .nxt e1) E) : wp (whileS n c g) e QS E := by
  induction n generalizing e with
  | zero => omega
  | succ n ih =>
    unfold whileS
    rw [wp_bnd]
    refine wp_mono (step e h0) fun b e1 hb => ?_
    cases b with
    | false => exact hb
    | true =>
      simp only [if_true] at hb ⊢
      unfold wp at hb ⊢
      cases q : g e1 with
      | no => rw [q] at hb; exact hb.elim
      | ex => rw [q] at hb; simp only [q]; exact hb
      | ok fl e2 =>
        rw [q] at hb
        simp only [q]
        cases fl
        · exact ih (e := e2) hb.1 (by have := hb.2; omega)
        · exact hb
        · exact ih (e := e2) hb.1 (by have := hb.2; omega)
        · exact hb
/-! ### comprehensions -/
def kComp (vs : List Nat) (t : D → EM Unit) (tt : EM Bool) (te : EM D) (Q : D → Env → Prop) (E : EX) : List D → Env → Prop := fun ds e => wp (compE vs (ret ds) t tt te) e Q E
@[simp] theorem wp_compE {vs : List Nat} {fi : EM (List D)} {t : D → EM Unit} {tt : EM Bool} {te : EM D} : wp (compE vs fi t tt te) e Q E = wp fi e (kComp vs t tt te Q E) E := by
  unfold kComp compE; rw [wp_bnd]; congr
def noX : EX := fun _ _ _ => False
def kElt (vs : List Nat) (w : Env) (te : EM D) (b : Bool) (y : D) : Bool → Env → Prop := fun x e2 => x = b ∧ if b then wp te e2 (fun z e3 => z = y ∧ vs.all (imAt e3) = true ∧ wipeE e3 vs = w) noX else (vs.all (imAt e2) = true ∧ wipeE e2 vs = w)
def kTgt (vs : List Nat) (w : Env) (tt : EM Bool) (te : EM D) (b : Bool) (y : D) : Unit → Env → Prop := fun _ e1 => wp tt e1 (kElt vs w te b y) noX
@[simp] theorem kTgt_at {vs : List Nat} {w : Env} {tt : EM Bool} {te : EM D} {b : Bool} {y : D} {x : Unit} {e1 : Env} : kTgt vs w tt te b y x e1 = wp tt e1 (kElt vs w te b y) noX := rfl
def kEnd (vs : List Nat) (w : Env) (y : D) : D → Env → Prop := fun z e3 => z = y ∧ vs.all (imAt e3) = true ∧ wipeE e3 vs = w
@[simp] theorem kEnd_at {vs : List Nat} {w : Env} {y z : D} {e3 : Env} : kEnd vs w y z e3 = (z = y ∧ vs.all (imAt e3) = true ∧ wipeE e3 vs = w) := rfl
@[simp] theorem kElt_at {vs : List Nat} {w : Env} {te : EM D} {b x : Bool} {y : D} {e1 : Env} : kElt vs w te b y x e1 = (x = b ∧ ((b = true → wp te e1 (kEnd vs w y) noX) ∧ (b = false → vs.all (imAt e1) = true ∧ wipeE e1 vs = w))) := by
  unfold kElt
  cases b
  · simp
  · simp only [if_true, true_implies, Bool.true_eq_false, false_implies, and_true]
    rfl
theorem compL_wp {α : Type} {em : α → D} {vs : List Nat} {t : D → EM Unit} {tt : EM Bool} {te : EM D} {w : Env} {b : α → Bool} {f : α → D} : ∀ {as : List α}, (∀ a ∈ as, wp (t (em a)) w (kTgt vs w tt te (b a) (f a)) noX) → compL vs t tt te (as.map em) w = .ok ((as.filter b).map f) w
  | [], _ => rfl
  | a :: as, h => by
    have ih := compL_wp (as := as) fun x hx => h x (List.mem_cons_of_mem _ hx)
    have ha := h a List.mem_cons_self
    rw [List.map_cons, compL]
    unfold wp at ha
    cases q : t (em a) w with
    | no => rw [q] at ha; exact ha.elim
    | ex => rw [q] at ha; exact ha.elim
    | ok u e1 =>
      rw [q] at ha
      simp only [kTgt, wp] at ha ⊢
      cases q2 : tt e1 with
      | no => rw [q2] at ha; exact ha.elim
      | ex => rw [q2] at ha; exact ha.elim
      | ok x e2 =>
        rw [q2] at ha
        simp only [kElt] at ha
        obtain ⟨rfl, ha⟩ := ha
        cases hb : b a with
        | false =>
          rw [hb] at ha
          have ha : vs.all (imAt e2) = true ∧ wipeE e2 vs = w := ha
          simp only [q, q2, hb, ha.1, if_true, ha.2, ih]
          rw [List.filter_cons_of_neg (by rw [hb]; decide)]
        | true =>
          rw [hb] at ha
          have ha : wp te e2 (fun z e3 => z = f a ∧ vs.all (imAt e3) = true ∧ wipeE e3 vs = w) noX := ha
          unfold wp at ha
          cases q3 : te e2 with
          | no => rw [q3] at ha; exact ha.elim
          | ex => rw [q3] at ha; exact ha.elim
          | ok y e3 =>
            rw [q3] at ha
            obtain ⟨h1, h2, h3⟩ := ha
            simp only [q, q2, q3, hb, h2, if_true, h3, ih]
            rw [List.filter_cons_of_pos hb, List.map_cons, h1]
/-- a comprehension: what each thing gives -/
theorem comp_all {α : Type} {em : α → D} {as : List α} {vs : List Nat} {t : D → EM Unit} {tt : EM Bool} {te : EM D} (b : α → Bool) (f : α → D) (hw : vs.all (imAt e) = true) (hb : backE (wipeE e vs) e vs = e) (hw2 : vs.all (imAt (wipeE e vs)) = true) (hl : as.length ≤ 1000000)
    (h : ∀ a ∈ as, wp (t (em a)) (wipeE e vs) (kTgt vs (wipeE e vs) tt te (b a) (f a)) noX) (hq : Q (.list ((as.filter b).map f)) e) : kComp vs t tt te Q E (as.map em) e := by
  unfold kComp wp compE
  simp only [bnd, ret, hw, if_true, compL_wp h, hw2, Bool.and_true]
  rw [if_pos (few_le' (by rw [List.length_map]; exact Nat.le_trans (List.length_filter_le _ _) hl)), hb]
  exact hq
/-- without an if -/
theorem comp_map {α : Type} {em : α → D} {as : List α} {vs : List Nat} {t : D → EM Unit} {te : EM D} (f : α → D) (hw : vs.all (imAt e) = true) (hb : backE (wipeE e vs) e vs = e) (hw2 : vs.all (imAt (wipeE e vs)) = true) (hl : as.length ≤ 1000000)
    (h : ∀ a ∈ as, wp (t (em a)) (wipeE e vs) (kTgt vs (wipeE e vs) (ret true) te true (f a)) noX) (hq : Q (.list (as.map f)) e) : kComp vs t (ret true) te Q E (as.map em) e := by
  refine comp_all (fun _ => true) f hw hb hw2 hl h ?_
  rw [List.filter_eq_self.mpr (fun _ _ => rfl)]
  exact hq
/-! ### more of owned things -/
def kPdm1 (i j : Nat) (fm : EM M) (Q : Flow → Env → Prop) (E : EX) : D → Env → Prop := fun d e1 => wp fm e1 (fun m e2 => wp (seqS (stoM j m) (stoM i (.im d))) e2 Q E) E
def kPdm2 (i j : Nat) (d : D) (Q : Flow → Env → Prop) : M → Env → Prop := fun m e2 => j < e2.length ∧ i < e2.length ∧ Q .nxt ((e2.set j (some m)).set i (some (.im d)))
@[simp] theorem wp_parDM {i j : Nat} {fm : EM M} : wp (parDM i j fa fm) e QS E = wp fa e (kPdm1 i j fm QS E) E := by
  unfold parDM; rw [wp_bnd]; congr; funext d e1; rw [wp_bnd]; rfl
@[simp] theorem kPdm1_at {i j : Nat} {fm : EM M} {d : D} {e1 : Env} : kPdm1 i j fm QS E d e1 = wp fm e1 (kPdm2 i j d QS) E := by
  unfold kPdm1; congr; funext m e2; rw [wp_seqS, wp_stoM, kSeq_nxt, wp_stoM, List.length_set]; rfl
@[simp] theorem kPdm2_at {i j : Nat} {d : D} {m : M} {e2 : Env} : kPdm2 i j d QS m e2 = (j < e2.length ∧ i < e2.length ∧ QS .nxt ((e2.set j (some m)).set i (some (.im d)))) := rfl
def kExt (i : Nat) (Q : Flow → Env → Prop) : M → Env → Prop := fun m e1 => wp (extM i m) e1 Q (fun _ _ _ => False)
def kExt2 (i : Nat) (ds : List D) (Q : Flow → Env → Prop) (e : Env) : Option (Option M) → Prop
  | some (some (.ls ms)) => ms.length + ds.length ≤ 1000000 ∧ Q .nxt (e.set i (some (.ls (ms ++ ds.map .im))))
  | _ => False
theorem extM_ex {i : Nat} {m : M} {e1 e' : Env} {C : Addr} {fs : List (Str × D)} : extM i m e1 ≠ .ex C fs e' := by
  unfold extM
  split
  · split
    · split
      · split <;> intro h <;> cases h
      · intro h; cases h
    · intro h; cases h
  · intro h; cases h
@[simp] theorem wp_extS {i : Nat} {fm : EM M} : wp (extS i fm) e QS E = (isLs i e = true ∧ wp fm e (kExt i QS) E) := by
  unfold wp extS
  by_cases h : isLs i e = true
  · simp only [h, if_true, true_and, bnd]
    cases fm e with
    | ok d e1 =>
      simp only [kExt, wp]
      cases q : extM i d e1 with
      | ok => rfl
      | ex => exact absurd q extM_ex
      | no => rfl
    | ex => rfl
    | no => rfl
  · simp [h]
@[simp] theorem kExt_at {i : Nat} {ds : List D} {e1 : Env} : kExt i QS (.ls (ds.map .im)) e1 = kExt2 i ds QS e1 e1[i]? := by
  unfold kExt wp extM
  simp only [imAll_im]
  cases e1[i]? with
  | none => rfl
  | some o => cases o with
    | none => rfl
    | some m => cases m <;> try rfl
                rename_i ms
                simp only [kExt2]
                by_cases h : ms.length + ds.length ≤ 1000000
                · simp [few, h]
                · simp [few, h]
@[simp] theorem kExt2_at {i : Nat} {ds : List D} {ms : List M} : kExt2 i ds QS e (some (some (.ls ms))) = (ms.length + ds.length ≤ 1000000 ∧ QS .nxt (e.set i (some (.ls (ms ++ ds.map .im))))) := rfl
def kCompM (vs : List Nat) (t : D → EM Unit) (tt : EM Bool) (te : EM D) (Q : M → Env → Prop) (E : EX) : List D → Env → Prop := fun ds e => wp (compM vs (ret ds) t tt te) e Q E
@[simp] theorem wp_compM {vs : List Nat} {fi : EM (List D)} {t : D → EM Unit} {tt : EM Bool} {te : EM D} : wp (compM vs fi t tt te) e QM E = wp fi e (kCompM vs t tt te QM E) E := by
  unfold kCompM compM; rw [wp_bnd]; congr
theorem compM_all {α : Type} {em : α → D} {as : List α} {vs : List Nat} {t : D → EM Unit} {tt : EM Bool} {te : EM D} (b : α → Bool) (f : α → D) (hw : vs.all (imAt e) = true) (hb : backE (wipeE e vs) e vs = e) (hw2 : vs.all (imAt (wipeE e vs)) = true) (hl : as.length ≤ 1000000)
    (h : ∀ a ∈ as, wp (t (em a)) (wipeE e vs) (kTgt vs (wipeE e vs) tt te (b a) (f a)) noX) (hq : QM (.ls (((as.filter b).map f).map .im)) e) : kCompM vs t tt te QM E (as.map em) e := by
  unfold kCompM wp compM
  simp only [bnd, ret, hw, if_true, compL_wp h, hw2, Bool.and_true]
  rw [if_pos (few_le' (by rw [List.length_map]; exact Nat.le_trans (List.length_filter_le _ _) hl)), hb]
  exact hq
theorem compM_map {α : Type} {em : α → D} {as : List α} {vs : List Nat} {t : D → EM Unit} {te : EM D} (f : α → D) (hw : vs.all (imAt e) = true) (hb : backE (wipeE e vs) e vs = e) (hw2 : vs.all (imAt (wipeE e vs)) = true) (hl : as.length ≤ 1000000)
    (h : ∀ a ∈ as, wp (t (em a)) (wipeE e vs) (kTgt vs (wipeE e vs) (ret true) te true (f a)) noX) (hq : QM (.ls ((as.map f).map .im)) e) : kCompM vs t (ret true) te QM E (as.map em) e := by
  refine compM_all (fun _ => true) f hw hb hw2 hl h ?_
  rw [List.filter_eq_self.mpr (fun _ _ => rfl)]
  exact hq
/-! ### arguments, what comes back -/
@[simp] theorem slotsOf_nil : slotsOf [] = [] := rfl
@[simp] theorem slotsOf_d {d : D} {r : List AR} : slotsOf (.d d :: r) = slotsOf r := rfl
@[simp] theorem slotsOf_b {s : Nat} {r : List AR} : slotsOf (.b s :: r) = s :: slotsOf r := rfl
def kArg (o : Option (List M)) : Option (Option M) → Option (List M)
  | some (some m) => o.map (m :: ·)
  | _ => none
@[simp] theorem kArg_at {o : Option (List M)} {m : M} : kArg o (some (some m)) = o.map (m :: ·) := rfl
@[simp] theorem argM_nil : argM e [] = some [] := rfl
@[simp] theorem argM_d {d : D} {r : List AR} : argM e (.d d :: r) = (argM e r).map (.im d :: ·) := rfl
@[simp] theorem argM_b {s : Nat} {r : List AR} : argM e (.b s :: r) = kArg (argM e r) e[s]? := by
  rw [argM]
  cases e[s]? with
  | none => rfl
  | some o => cases o <;> rfl
@[simp] theorem putB_nil {ms : List M} : putB e [] ms = e := rfl
@[simp] theorem putB_d {d : D} {r : List AR} {m : M} {ms : List M} : putB e (.d d :: r) (m :: ms) = putB e r ms := rfl
@[simp] theorem putB_b {s : Nat} {r : List AR} {m : M} {ms : List M} : putB e (.b s :: r) (m :: ms) = (putB e r ms).set s (some m) := rfl
@[simp] theorem isIm_im {d : D} : isIm (.im d) = true := rfl
def kBb (o : Option (List M)) : Option (Option M) → Option (List M)
  | some (some m) => o.map (m :: ·)
  | _ => none
@[simp] theorem kBb_at {o : Option (List M)} {m : M} : kBb o (some (some m)) = o.map (m :: ·) := rfl
@[simp] theorem backs_nil {B : List Nat} {i : Nat} : backs B e i [] = some [] := rfl
@[simp] theorem backs_no {i : Nat} {d : D} {ms : List M} : backs [] e i (.im d :: ms) = (backs [] e (i + 1) ms).map (.im d :: ·) := rfl
theorem backs_cons {B : List Nat} {i : Nat} {m : M} {ms : List M} : backs B e i (m :: ms) = if B.contains i then kBb (backs B e (i + 1) ms) e[i]? else if isIm m then (backs B e (i + 1) ms).map (m :: ·) else none := by
  rw [backs]
  by_cases h : B.contains i = true
  · simp only [h, if_true]
    cases e[i]? with
    | none => rfl
    | some o => cases o <;> rfl
  · rw [if_neg h, if_neg h]
/-! ### defs -/
def kBk (r : M) (K : M → List M → Prop) : Option (List M) → Prop
  | some ms => K r ms
  | none => False
@[simp] theorem kBk_at {r : M} {K : M → List M → Prop} {ms : List M} : kBk r K (some ms) = K r ms := rfl
def kFin (B : List Nat) (ms : List M) (K : M → List M → Prop) : Flow → Env → Prop
  | .ret r, e => kBk r K (backs B e 0 ms)
  | .nxt, e => kBk (.im .none) K (backs B e 0 ms)
  | _, _ => False
@[simp] theorem kFin_ret {B : List Nat} {ms : List M} {K : M → List M → Prop} {r : M} : kFin B ms K (.ret r) e = kBk r K (backs B e 0 ms) := rfl
@[simp] theorem kFin_nxt {B : List Nat} {ms : List M} {K : M → List M → Prop} : kFin B ms K .nxt e = kBk (.im .none) K (backs B e 0 ms) := rfl
theorem wpR_def {np nN : Nat} {B : List Nat} {g : EM Flow} {ms : List M} {K : M → List M → Prop} (hl : ms.length = np) (h : wp g (args0 nN ms) (kFin B ms K) noX) : wpR (defF np nN B g ms) K := by
  unfold defF
  rw [if_pos hl]
  unfold wp at h
  cases q : g (args0 nN ms) with
  | no => rw [q] at h; exact h.elim
  | ex => rw [q] at h; exact h.elim
  | ok fl e' =>
    rw [q] at h
    cases fl with
    | nxt =>
      simp only [kFin, endF] at h ⊢
      cases z : backs B e' 0 ms with
      | none => rw [z] at h; exact h.elim
      | some ms' => rw [z] at h; unfold wpR; exact h
    | brk => exact h.elim
    | cnt => exact h.elim
    | ret r =>
      simp only [kFin, endF] at h ⊢
      cases z : backs B e' 0 ms with
      | none => rw [z] at h; exact h.elim
      | some ms' => rw [z] at h; unfold wpR; exact h
end
end FD

namespace FDL
open PySem L2 FD
def gis_whole : EM FD.Flow := (retS (andV (un (isiD "int") (var 0)) (andV (notV (un (isiD "bool") (var 0))) (chn leI leI (var 1) (var 0) (var 2)))))
def fis_whole : List M → FOut := defF 3 3 [] gis_whole
def gis_letter : EM FD.Flow := (retS (andV (un (isiD "str") (var 0)) (andV (bin eqA (cbE lenD (consA (var 0) nilA)) (ret (.int 1))) (bin inA (var 0) (ret (.str "abcdefghijklmnopqrstuvwxyz"))))))
def fis_letter : List M → FOut := defF 1 1 [] gis_letter
def gis_side : EM FD.Flow := (retS (orV (callD fis_letter (arD (var 0) arN)) (andV (un (isiD "str") (var 0)) (bin inA (var 0) (tupE (consA (var 1) (consA (ret (.str "*")) nilA)))))))
def fis_side : List M → FOut := defF 2 2 [] gis_side
def grule_looks : EM FD.Flow := (seqS (setS 1 (lstE (consA (callD fis_side (arD (bin ixA (var 0) (ret (.int 0))) (arD (ret (.str "<")) arN))) (consA (callD fis_letter (arD (bin ixA (var 0) (ret (.int 1))) arN)) (consA (callD fis_side (arD (bin ixA (var 0) (ret (.int 2))) (arD (ret (.str ">")) arN))) nilA))))) (retS (bin addD (var 1) (lstE (consA (callD fis_whole (kwA 1 1 [.inl 0, .inr 0, .inl 1] [.int 0] (arD (bin ixA (var 0) (ret (.int 3))) arN) (arD (ret (.int 999)) arN))) nilA)))))
def frule_looks : List M → FOut := defF 1 2 [] grule_looks
def gneed_book : EM FD.Flow := (seqS (ifS (orT (notT (tst (un (isiD "tuple") (var 0)))) (tst (bin gtI (cbE lenD (consA (var 0) nilA)) (ret (.int 80))))) (fun _ => .no) (ret .nxt)) (forS (itA enA (consA (var 0) nilA)) (gT 2 (gsCons (gN 1) (gsCons (gN 2) gsNil))) (ifS (orT (notT (tst (un (isiD "tuple") (var 2)))) (orT (tst (bin neD (cbE lenD (consA (var 2) nilA)) (ret (.int 4)))) (tst (bin inA (ret (.bool false)) (callD frule_looks (arD (var 2) arN)))))) (fun _ => .no) (ret .nxt))))
def fneed_book : List M → FOut := defF 1 3 [] gneed_book
def gneed_case : EM FD.Flow := (seqS (ifS (orT (notT (tst (un (isiD "tuple") (var 0)))) (tst (bin neD (cbE lenD (consA (var 0) nilA)) (ret (.int 3))))) (fun _ => .no) (ret .nxt)) (seqS (asgS (var 0) (gT 3 (gsCons (gN 1) (gsCons (gN 2) (gsCons (gN 3) gsNil))))) (seqS (ifS (orT (notT (tst (callD fis_side (arD (var 1) (arD (ret (.str "<")) arN))))) (orT (notT (tst (callD fis_letter (arD (var 2) arN)))) (notT (tst (callD fis_side (arD (var 3) (arD (ret (.str ">")) arN))))))) (fun _ => .no) (ret .nxt)) (ifS (orT (tst (bin eqA (var 1) (ret (.str "*")))) (tst (bin eqA (var 3) (ret (.str "*"))))) (fun _ => .no) (ret .nxt)))))
def fneed_case : List M → FOut := defF 1 4 [] gneed_case
def gfits_case : EM FD.Flow := (retS (andV (bin eqA (bin ixA (var 0) (ret (.int 1))) (bin ixA (var 1) (ret (.int 1)))) (andV (bin inA (bin ixA (var 0) (ret (.int 0))) (tupE (consA (bin ixA (var 1) (ret (.int 0))) (consA (ret (.str "*")) nilA)))) (bin inA (bin ixA (var 0) (ret (.int 2))) (tupE (consA (bin ixA (var 1) (ret (.int 2))) (consA (ret (.str "*")) nilA)))))))
def ffits_case : List M → FOut := defF 2 2 [] gfits_case
def gprice_there : EM FD.Flow := (seqS (setS 2 (compE [3] (itE itX (var 0)) (gN 3) (tst (callD ffits_case (arD (var 3) (arD (var 1) arN)))) (bin ixA (var 3) (ret (.int 3))))) (retS (ifE (tst (bin neD (var 2) (lstE nilA))) (cbE minD (consA (var 2) nilA)) (ret .none))))
def fprice_there : List M → FOut := defF 2 4 [] gprice_there
def gprice : EM FD.Flow := (seqS (exprS (callD fneed_book (arD (var 0) arN))) (seqS (exprS (callD fneed_case (arD (var 1) arN))) (retS (callD fprice_there (arD (var 0) (arD (var 1) arN))))))
def fprice : List M → FOut := defF 2 2 [] gprice
def gsigns_for : EM FD.Flow := (retS (ifE (tst (bin eqA (var 0) (ret (.str "*")))) (bin addD (tupE (consA (var 1) nilA)) (cbE tupleD (consA (ret (.str "abcdefghijklmnopqrstuvwxyz")) nilA))) (tupE (consA (var 0) nilA))))
def fsigns_for : List M → FOut := defF 2 2 [] gsigns_for
def grule_cases : EM FD.Flow := (seqS (asgS (tupE (consA (callD fsigns_for (arD (bin ixA (var 0) (ret (.int 0))) (arD (ret (.str "<")) arN))) (consA (callD fsigns_for (arD (bin ixA (var 0) (ret (.int 2))) (arD (ret (.str ">")) arN))) nilA))) (gT 2 (gsCons (gN 1) (gsCons (gN 2) gsNil)))) (retS (compE2 [3, 4] [4] (itE itX (var 1)) (gN 3) (ret true) (itE itX (var 2)) (gN 4) (ret true) (tupE (consA (var 3) (consA (bin ixA (var 0) (ret (.int 1))) (consA (var 4) nilA)))))))
def frule_cases : List M → FOut := defF 1 5 [] grule_cases
def gprice_table : EM FD.Flow := (seqS (setM 1 dtM) (seqS (forS (itE itX (var 0)) (gN 2) (forS (itE itX (callD frule_cases (arD (var 2) arN))) (gN 3) (storeS 1 (var 3) (cbE minD (consA (bin ixA (var 2) (ret (.int 3))) (consA (pkGet 1 (consA (var 3) (consA (bin ixA (var 2) (ret (.int 3))) nilA))) nilA)))))) (retS (var 1))))
def fprice_table : List M → FOut := defF 1 4 [] gprice_table
def gtwo_tables : EM FD.Flow := (seqS (exprS (callD fneed_book (arD (var 0) arN))) (seqS (exprS (callD fneed_book (arD (var 1) arN))) (retS (tupE (consA (callD fprice_table (arD (var 0) arN)) (consA (callD fprice_table (arD (var 1) arN)) nilA))))))
def ftwo_tables : List M → FOut := defF 2 2 [] gtwo_tables
def gsame : EM FD.Flow := (seqS (asgS (callD ftwo_tables (arD (var 0) (arD (var 1) arN))) (gT 2 (gsCons (gN 2) (gsCons (gN 3) gsNil)))) (retS (bin eqA (var 2) (var 3))))
def fsame : List M → FOut := defF 2 4 [] gsame
def gis_within : EM FD.Flow := (seqS (asgS (callD ftwo_tables (arD (var 0) (arD (var 1) arN))) (gT 2 (gsCons (gN 2) (gsCons (gN 3) gsNil)))) (retS (cbE allD (consA (compE [4] (itE itX (var 2)) (gN 4) (ret true) (bin inA (var 4) (var 3))) nilA))))
def fis_within : List M → FOut := defF 2 5 [] gis_within
def geach_once : EM FD.Flow := (seqS (setM 1 (lstM nilA)) (seqS (forS (itE itX (var 0)) (gN 2) (ifS (tst (pkR 1 ninPD (var 2))) (appS 1 (var 2)) (ret .nxt))) (seqS (ifS (tst (bin gtI (pkLen 1) (ret (.int 80)))) (fun _ => .no) (ret .nxt)) (retS (cbE tupleD (consA (var 1) nilA))))))
def feach_once : List M → FOut := defF 1 3 [] geach_once
def geither : EM FD.Flow := (seqS (exprS (callD fneed_book (arD (var 0) arN))) (seqS (exprS (callD fneed_book (arD (var 1) arN))) (retS (callD feach_once (arD (bin addD (var 0) (var 1)) arN)))))
def feither : List M → FOut := defF 2 2 [] geither
def gsides_met : EM FD.Flow := (seqS (ifS (tst (bin inA (var 1) (tupE (consA (var 0) (consA (ret (.str "*")) nilA))))) (retS (var 0)) (ret .nxt)) (retS (ifE (tst (bin eqA (var 0) (ret (.str "*")))) (var 1) (ret .none))))
def fsides_met : List M → FOut := defF 2 2 [] gsides_met
def gboth : EM FD.Flow := (seqS (exprS (callD fneed_book (arD (var 0) arN))) (seqS (exprS (callD fneed_book (arD (var 1) arN))) (seqS (setM 2 (lstM nilA)) (seqS (forS (itE itX (var 0)) (gT 4 (gsCons (gN 3) (gsCons (gN 4) (gsCons (gN 5) (gsCons (gN 6) gsNil))))) (forS (itE itX (var 1)) (gT 4 (gsCons (gN 7) (gsCons (gN 8) (gsCons (gN 9) (gsCons (gN 10) gsNil))))) (seqS (setS 11 (tupE (consA (callD fsides_met (arD (var 3) (arD (var 7) arN))) (consA (callD fsides_met (arD (var 5) (arD (var 9) arN))) nilA)))) (ifS (andT (tst (bin eqA (var 4) (var 8))) (tst (bin ninA (ret .none) (var 11)))) (appS 2 (tupE (consA (bin ixA (var 11) (ret (.int 0))) (consA (var 4) (consA (bin ixA (var 11) (ret (.int 1))) (consA (cbE maxD (consA (var 6) (consA (var 10) nilA))) nilA)))))) (ret .nxt))))) (retS (callD feach_once (arD (var 2) arN)))))))
def fboth : List M → FOut := defF 2 12 [] gboth
def g_law_mixed : EM FD.Flow := (seqS (setS 0 (bin modD (bin mulD (bin addD (bin addD (bin modD (var 0) (ret (.int 2147483647))) (bin mulD (bin mulD (ret (.int 7919)) (var 1)) (var 1))) (bin mulD (ret (.int 31)) (var 1))) (ret (.int 48271))) (ret (.int 2147483647)))) (retS (bin modD (bin mulD (var 0) (bin addD (ret (.int 69621)) (bin mulD (ret (.int 2)) (var 1)))) (ret (.int 2147483629)))))
def f_law_mixed : List M → FOut := defF 2 2 [] g_law_mixed
def g_law_stream : EM FD.Flow := (retM (lstM (consA (ifE (tst (bin geI (var 0) (bin powD (ret (.int 10)) (ret (.int 18))))) (var 0) (ret (.int 0))) (consA (ret (.int 0)) (consA (callD f_law_mixed (arD (var 0) (arD (var 1) arN))) nilA)))))
def f_law_stream : List M → FOut := defF 2 2 [] g_law_stream
def g_law_take : EM FD.Flow := (seqS (storeS 0 (ret (.int 1)) (bin addD (pkIxA 0 (ret (.int 1))) (ret (.int 1)))) (seqS (ifS (tst (bin eqA (pkIxA 0 (ret (.int 0))) (ret (.int 0)))) (retS (bin modD (callD f_law_mixed (arD (callD f_law_mixed (arD (pkIxA 0 (ret (.int 2))) (arD (pkIxA 0 (ret (.int 1))) arN))) (arD (ret (.int 7)) arN))) (var 1))) (ret .nxt)) (seqS (setS 2 (bin modD (pkIxA 0 (ret (.int 0))) (var 1))) (seqS (storeS 0 (ret (.int 0)) (bin fdvD (pkIxA 0 (ret (.int 0))) (var 1))) (retS (var 2))))))
def f_law_take : List M → FOut := defF 2 3 [0] g_law_take
def g_law_signs : EM FD.Flow := (seqS (asgS (tupE (consA (callD f_law_take (arB 0 (arD (ret (.int 26)) arN))) (consA (bin addD (ret (.int 1)) (bin mulD (ret (.int 2)) (callD f_law_take (arB 0 (arD (ret (.int 6)) arN))))) nilA))) (gT 2 (gsCons (gN 2) (gsCons (gN 3) gsNil)))) (retS (compE [4] (itA rng1 (consA (var 1) nilA)) (gN 4) (ret true) (bin ixA (ret (.str "abcdefghijklmnopqrstuvwxyz")) (bin modD (bin addD (var 2) (bin mulD (var 3) (var 4))) (ret (.int 26)))))))
def f_law_signs : List M → FOut := defF 2 5 [0] g_law_signs
def g_law_side : EM FD.Flow := (retS (bin ixA (bin addD (var 1) (lstE (consA (var 2) (consA (ret (.str "*")) nilA)))) (callD f_law_take (arB 0 (arD (bin addD (cbE lenD (consA (var 1) nilA)) (ret (.int 2))) arN)))))
def f_law_side : List M → FOut := defF 3 3 [0] g_law_side
def g_law_rule : EM FD.Flow := (seqS (parS (consA (callD f_law_side (arB 0 (arD (var 1) (arD (ret (.str "<")) arN)))) (consA (callD f_law_side (arB 0 (arD (var 1) (arD (ret (.str ">")) arN)))) nilA)) (gsCons (gN 2) (gsCons (gN 3) gsNil))) (seqS (parS (consA (bin ixA (var 1) (callD f_law_take (arB 0 (arD (cbE lenD (consA (var 1) nilA)) arN)))) (consA (callD f_law_take (arB 0 (arD (ret (.int 4)) arN))) nilA)) (gsCons (gN 4) (gsCons (gN 5) gsNil))) (retS (tupE (consA (var 2) (consA (var 4) (consA (var 3) (consA (ifE (tst (bin eqA (var 5) (ret (.int 3)))) (callD f_law_take (arB 0 (arD (ret (.int 1000)) arN))) (var 5)) nilA))))))))
def f_law_rule : List M → FOut := defF 2 6 [0] g_law_rule
def g_law_rules : EM FD.Flow := (seqS (setM 3 (lstM nilA)) (seqS (forS (itA rng1 (consA (var 2) nilA)) (gN 4) (seqS (setS 5 (callD f_law_rule (arB 0 (arD (var 1) arN)))) (seqS (ifS (andT (tst (pkL 3 neD (lstE nilA))) (tst (bin eqA (callD f_law_take (arB 0 (arD (ret (.int 6)) arN))) (ret (.int 0))))) (seqS (setS 6 (pkIxA 3 (callD f_law_take (arB 0 (arD (pkLen 3) arN))))) (setS 5 (ifE (tst (bin eqA (callD f_law_take (arB 0 (arD (ret (.int 2)) arN))) (ret (.int 0)))) (var 6) (bin addD (slE (var 6) (ret none) (intE (ret (.int 3)))) (slE (var 5) (intE (ret (.int 3))) (ret none)))))) (ret .nxt)) (appS 3 (var 5))))) (retS (cbE tupleD (consA (var 3) nilA)))))
def f_law_rules : List M → FOut := defF 3 7 [0] g_law_rules
def g_law_cost : EM FD.Flow := (seqS (setM 2 (lstM nilA)) (seqS (forS (itE itX (var 0)) (gT 4 (gsCons (gN 3) (gsCons (gN 4) (gsCons (gN 5) (gsCons (gN 6) gsNil))))) (ifS (andT (tst (bin eqA (var 4) (bin ixA (var 1) (ret (.int 1))))) (andT (tst (bin inA (var 3) (tupE (consA (bin ixA (var 1) (ret (.int 0))) (consA (ret (.str "*")) nilA))))) (tst (bin inA (var 5) (tupE (consA (bin ixA (var 1) (ret (.int 2))) (consA (ret (.str "*")) nilA))))))) (appS 2 (var 6)) (ret .nxt))) (retS (ifE (tst (pkL 2 neD (lstE nilA))) (cbE minD (consA (var 2) nilA)) (ret .none)))))
def f_law_cost : List M → FOut := defF 2 7 [] g_law_cost
def g_law_trios : EM FD.Flow := (seqS (parDM 2 3 (cbE sortedD (consA (var 0) nilA)) (lstM nilA)) (seqS (forS (itE itX (bin addD (lstE (consA (ret (.str "<")) nilA)) (var 2))) (gN 1) (forS (itE itX (var 2)) (gN 4) (extS 3 (compM [5] (itE itX (bin addD (lstE (consA (ret (.str ">")) nilA)) (var 2))) (gN 5) (ret true) (tupE (consA (var 1) (consA (var 4) (consA (var 5) nilA)))))))) (retS (var 3))))
def f_law_trios : List M → FOut := defF 1 6 [] g_law_trios
def g_law_met : EM FD.Flow := (seqS (ifS (tst (bin inA (ret (.str "*")) (tupE (consA (var 0) (consA (var 1) nilA))))) (retS (ifE (tst (bin eqA (var 1) (ret (.str "*")))) (var 0) (var 1))) (ret .nxt)) (retS (ifE (tst (bin eqA (var 0) (var 1))) (var 0) (ret (.str "")))))
def f_law_met : List M → FOut := defF 2 2 [] g_law_met
def g_law_once : EM FD.Flow := (retS (cbE tupleD (consA (compE [1, 2] (itA enA (consA (var 0) nilA)) (gT 2 (gsCons (gN 1) (gsCons (gN 2) gsNil))) (tst (bin ninA (var 2) (slE (var 0) (ret none) (intE (var 1))))) (var 2)) nilA)))
def f_law_once : List M → FOut := defF 1 3 [] g_law_once
def g_law_both_due : EM FD.Flow := (seqS (setM 2 (lstM nilA)) (seqS (forS (itE itX (var 0)) (gN 3) (forS (itE itX (var 1)) (gN 4) (seqS (setS 5 (tupE (consA (callD f_law_met (arD (bin ixA (var 3) (ret (.int 0))) (arD (bin ixA (var 4) (ret (.int 0))) arN))) (consA (bin ixA (var 3) (ret (.int 1))) (consA (callD f_law_met (arD (bin ixA (var 3) (ret (.int 2))) (arD (bin ixA (var 4) (ret (.int 2))) arN))) (consA (cbE maxD (consA (bin ixA (var 3) (ret (.int 3))) (consA (bin ixA (var 4) (ret (.int 3))) nilA))) nilA)))))) (ifS (andT (tst (bin eqA (bin ixA (var 3) (ret (.int 1))) (bin ixA (var 4) (ret (.int 1))))) (tst (bin ninA (ret (.str "")) (var 5)))) (appS 2 (var 5)) (ret .nxt))))) (retS (callD f_law_once (arD (var 2) arN)))))
def f_law_both_due : List M → FOut := defF 2 6 [] g_law_both_due
def g_law_two_right : EM FD.Flow := (seqS (parS (consA (callD feither (arD (var 0) (arD (var 1) arN))) (consA (callD fboth (arD (var 0) (arD (var 1) arN))) nilA)) (gsCons (gN 7) (gsCons (gN 8) gsNil))) (seqS (setS 3 (lstE (consA (callD f_law_once (arD (bin addD (cbE listD (consA (var 0) nilA)) (cbE listD (consA (var 1) nilA))) arN)) (consA (callD f_law_both_due (arD (var 0) (arD (var 1) arN))) nilA)))) (seqS (setS 4 (lstE (consA (callD feither (kwA 0 2 [.inl 1, .inl 0] [] arN (arD (var 1) (arD (var 0) arN)))) (consA (callD fboth (kwA 0 2 [.inl 1, .inl 0] [] arN (arD (var 1) (arD (var 0) arN)))) nilA)))) (seqS (ifS (orT (tst (bin neD (cbE reprD (consA (lstE (consA (var 7) (consA (var 8) nilA))) nilA)) (cbE reprD (consA (var 3) nilA)))) (tst (bin neD (cbE reprD (consA (var 4) nilA)) (cbE reprD (consA (var 3) nilA))))) (retS (ret (.bool false))) (ret .nxt)) (seqS (forS (itE itX (callD f_law_trios (arD (var 2) arN))) (gN 5) (seqS (setS 9 (compE [10] (itE itX (tupE (consA (callD f_law_cost (arD (var 0) (arD (var 5) arN))) (consA (callD f_law_cost (arD (var 1) (arD (var 5) arN))) nilA)))) (gN 10) (tst (bin isnD (var 10) (ret .none))) (var 10))) (seqS (ifS (tst (bin neD (callD fprice (arD (var 7) (arD (var 5) arN))) (ifE (tst (bin neD (var 9) (lstE nilA))) (cbE minD (consA (var 9) nilA)) (ret .none)))) (retS (ret (.bool false))) (ret .nxt)) (ifS (tst (bin neD (callD fprice (arD (var 8) (arD (var 5) arN))) (ifE (tst (bin eqA (cbE lenD (consA (var 9) nilA)) (ret (.int 2)))) (cbE maxD (consA (var 9) nilA)) (ret .none)))) (retS (ret (.bool false))) (ret .nxt))))) (seqS (setS 6 (lstE (consA (tupE (consA (var 0) (consA (var 7) nilA))) (consA (tupE (consA (var 1) (consA (var 7) nilA))) (consA (tupE (consA (var 8) (consA (var 0) nilA))) (consA (tupE (consA (var 8) (consA (var 1) nilA))) nilA)))))) (retS (cbE allD (consA (compE [11, 12] (itE itX (var 6)) (gT 2 (gsCons (gN 11) (gsCons (gN 12) gsNil))) (ret true) (bin isD (callD fis_within (arD (var 11) (arD (var 12) arN))) (ret (.bool true)))) nilA)))))))))
def f_law_two_right : List M → FOut := defF 3 13 [] g_law_two_right
def g_law_least_and_greatest : EM FD.Flow := (seqS (setM 3 (lstM (consA (tupE (consA (callD feither (arD (var 0) (arD (var 0) arN))) (consA (var 0) nilA))) (consA (tupE (consA (callD fboth (arD (var 0) (arD (var 0) arN))) (consA (var 0) nilA))) nilA)))) (seqS (setM 3 (catM (var 3) (lstE (consA (tupE (consA (callD feither (arD (var 0) (arD (var 1) arN))) (consA (callD feither (arD (var 1) (arD (var 0) arN))) nilA))) (consA (tupE (consA (callD fboth (arD (var 0) (arD (var 1) arN))) (consA (callD fboth (arD (var 1) (arD (var 0) arN))) nilA))) nilA))))) (seqS (setM 3 (catM (var 3) (lstE (consA (tupE (consA (callD feither (arD (var 0) (arD (callD fboth (arD (var 0) (arD (var 1) arN))) arN))) (consA (var 0) nilA))) (consA (tupE (consA (callD fboth (arD (var 0) (arD (callD feither (arD (var 0) (arD (var 1) arN))) arN))) (consA (var 0) nilA))) nilA))))) (seqS (appS 3 (tupE (consA (callD feither (arD (callD feither (arD (var 0) (arD (var 1) arN))) (arD (var 2) arN))) (consA (callD feither (arD (var 0) (arD (callD feither (arD (var 1) (arD (var 2) arN))) arN))) nilA)))) (seqS (appS 3 (tupE (consA (callD fboth (arD (var 0) (arD (callD feither (arD (var 1) (arD (var 2) arN))) arN))) (consA (callD feither (arD (callD fboth (arD (var 0) (arD (var 1) arN))) (arD (callD fboth (arD (var 0) (arD (var 2) arN))) arN))) nilA)))) (seqS (appS 3 (tupE (consA (callD feither (arD (var 0) (arD (callD fboth (arD (var 1) (arD (var 2) arN))) arN))) (consA (callD fboth (arD (callD feither (arD (var 0) (arD (var 1) arN))) (arD (callD feither (arD (var 0) (arD (var 2) arN))) arN))) nilA)))) (retS (cbE allD (consA (compE [4, 5] (itE itX (var 3)) (gT 2 (gsCons (gN 4) (gsCons (gN 5) gsNil))) (ret true) (bin isD (callD fsame (arD (var 4) (arD (var 5) arN))) (ret (.bool true)))) nilA)))))))))
def f_law_least_and_greatest : List M → FOut := defF 3 6 [] g_law_least_and_greatest
def glaw : EM FD.Flow := (seqS (forS (itA enA (consA (slE (bin addD (var 0) (lstE (consA (ret (.int 0)) nilA))) (ret none) (intE (ret (.int 9)))) nilA)) (gT 2 (gsCons (gN 1) (gsCons (gN 2) gsNil))) (seqS (setM 3 (callM f_law_stream (arD (var 2) (arD (var 1) arN)))) (seqS (setS 4 (callD f_law_signs (arB 3 (arD (bin addD (ret (.int 1)) (callD f_law_take (arB 3 (arD (ret (.int 4)) arN)))) arN)))) (seqS (setS 5 (callD f_law_rules (arB 3 (arD (var 4) (arD (callD f_law_take (arB 3 (arD (ret (.int 5)) arN))) arN))))) (seqS (setS 6 (callD f_law_rules (arB 3 (arD (var 4) (arD (callD f_law_take (arB 3 (arD (ret (.int 5)) arN))) arN))))) (seqS (setS 7 (callD f_law_rules (arB 3 (arD (var 4) (arD (callD f_law_take (arB 3 (arD (ret (.int 5)) arN))) arN))))) (seqS (ifS (andT (tst (bin neD (var 5) (tupE nilA))) (tst (bin eqA (callD f_law_take (arB 3 (arD (ret (.int 3)) arN))) (ret (.int 0))))) (setS 6 (bin addD (slE (var 5) (ret none) (intE (ret (.int 1)))) (slE (var 6) (intE (ret (.int 1))) (ret none)))) (ret .nxt)) (seqS (ifS (orT (notT (tst (callD f_law_two_right (arD (var 5) (arD (var 6) (arD (var 4) arN)))))) (notT (tst (callD f_law_two_right (arD (var 6) (arD (var 7) (arD (var 4) arN))))))) (retS (ret (.bool false))) (ret .nxt)) (ifS (notT (tst (callD f_law_least_and_greatest (arD (var 5) (arD (var 6) (arD (var 7) arN)))))) (retS (ret (.bool false))) (ret .nxt)))))))))) (retS (ret (.bool true))))
def flaw : List M → FOut := defF 1 8 [] glaw
end FDL

namespace FDL
open PySem L2 FD
/-! ### signs -/
def isLet (c : Nat) : Bool := decide (97 ≤ c) && decide (c ≤ 122)
def codes : List Nat := 42 :: 60 :: 62 :: (List.range 26).map (· + 97)
theorem sub_let : ∀ c ∈ codes, subS (sg c) "abcdefghijklmnopqrstuvwxyz" = isLet c := by decide +kernel
@[simp] theorem inA_strs {x y : Str} : inA (.str x) (.str y) = some (.bool (subS x y)) := rfl
theorem is_letter_at {c : Nat} (h : c ∈ codes) : fis_letter [.im (.str (sg c))] = .ok (.im (.bool (isLet c))) [.im (.str (sg c))] := by
  simp [FD.ret, FD.lif, FD.bnd, FD.var, FD.bin, FD.un, FD.tst, FD.andT, FD.orT, FD.notT, FD.andV, FD.orV, FD.notV, FD.ifE, FD.nilA, FD.consA, FD.tupE, FD.lstE, FD.seqS, FD.exprS, FD.retS, FD.retM, FD.ifS, FD.stoM, FD.setS, FD.setM, FD.gN, FD.gsNil, FD.gsCons, FD.gT, FD.goS, FD.asgS, FD.parS, FD.augS, FD.itE, FD.itA, FD.cbE, FD.slE, FD.intE, FD.arN, FD.arD, FD.arB, FD.callD, FD.callM, FD.slotsOf, FD.argM, FD.putB, FD.isIm, FD.endF, FD.backs, FD.args0, FD.defF, FD.chn, FD.lstM, FD.dtM, FD.dkM, FD.imM, FD.frzE, FD.has, FD.chk, FD.pk, FD.pkLen, FD.peekD, FD.pkL, FD.pkR, fis_letter, gis_letter, sub_let c h]
theorem is_side_at {c e : Nat} (h : c ∈ codes) : fis_side [.im (.str (sg c)), .im (.str (sg e))] = .ok (.im (.bool (isLet c || (e == c || 42 == c)))) [.im (.str (sg c)), .im (.str (sg e))] := by
  have hl := is_letter_at h
  cases q : isLet c <;> simp [FD.ret, FD.lif, FD.bnd, FD.var, FD.bin, FD.un, FD.tst, FD.andT, FD.orT, FD.notT, FD.andV, FD.orV, FD.notV, FD.ifE, FD.nilA, FD.consA, FD.tupE, FD.lstE, FD.seqS, FD.exprS, FD.retS, FD.retM, FD.ifS, FD.stoM, FD.setS, FD.setM, FD.gN, FD.gsNil, FD.gsCons, FD.gT, FD.goS, FD.asgS, FD.parS, FD.augS, FD.itE, FD.itA, FD.cbE, FD.slE, FD.intE, FD.arN, FD.arD, FD.arB, FD.callD, FD.callM, FD.slotsOf, FD.argM, FD.putB, FD.isIm, FD.endF, FD.backs, FD.args0, FD.defF, FD.chn, FD.lstM, FD.dtM, FD.dkM, FD.imM, FD.frzE, FD.has, FD.chk, FD.pk, FD.pkLen, FD.peekD, FD.pkL, FD.pkR, fis_side, gis_side, hl, q, star_sg]
theorem is_whole_at {i lo hi : Int} : fis_whole [.im (.int i), .im (.int lo), .im (.int hi)] = .ok (.im (.bool (decide (lo ≤ i) && decide (i ≤ hi)))) [.im (.int i), .im (.int lo), .im (.int hi)] := by
  by_cases h : lo ≤ i <;> simp [FD.ret, FD.lif, FD.bnd, FD.var, FD.bin, FD.un, FD.tst, FD.andT, FD.orT, FD.notT, FD.andV, FD.orV, FD.notV, FD.ifE, FD.nilA, FD.consA, FD.tupE, FD.lstE, FD.seqS, FD.exprS, FD.retS, FD.retM, FD.ifS, FD.stoM, FD.setS, FD.setM, FD.gN, FD.gsNil, FD.gsCons, FD.gT, FD.goS, FD.asgS, FD.parS, FD.augS, FD.itE, FD.itA, FD.cbE, FD.slE, FD.intE, FD.arN, FD.arD, FD.arB, FD.callD, FD.callM, FD.slotsOf, FD.argM, FD.putB, FD.isIm, FD.endF, FD.backs, FD.args0, FD.defF, FD.chn, FD.lstM, FD.dtM, FD.dkM, FD.imM, FD.frzE, FD.has, FD.chk, FD.pk, FD.pkLen, FD.peekD, FD.pkL, FD.pkR, fis_whole, gis_whole, h]
/-- a rule -/
structure Ru where
  a : Nat
  l : Nat
  b : Nat
  p : Int
deriving DecidableEq
def ruD (r : Ru) : D := .tuple [.str (sg r.a), .str (sg r.l), .str (sg r.b), .int r.p]
def okA (c : Nat) : Bool := isLet c || (60 == c || 42 == c)
def okB (c : Nat) : Bool := isLet c || (62 == c || 42 == c)
def okR (r : Ru) : Bool := okA r.a && isLet r.l && okB r.b && (decide (0 ≤ r.p) && decide (r.p ≤ 999))
theorem codes_let {c : Nat} (h : isLet c = true) : c ∈ codes := by
  simp only [isLet, Bool.and_eq_true, decide_eq_true_eq] at h
  refine List.mem_cons_of_mem _ (List.mem_cons_of_mem _ (List.mem_cons_of_mem _ (List.mem_map.mpr ⟨c - 97, List.mem_range.mpr (by omega), by omega⟩)))
theorem codes_A {c : Nat} (h : okA c = true) : c ∈ codes := by
  simp only [okA, Bool.or_eq_true, beq_iff_eq] at h
  rcases h with h | h | h
  · exact codes_let h
  · subst h; decide
  · subst h; decide
theorem codes_B {c : Nat} (h : okB c = true) : c ∈ codes := by
  simp only [okB, Bool.or_eq_true, beq_iff_eq] at h
  rcases h with h | h | h
  · exact codes_let h
  · subst h; decide
  · subst h; decide
theorem rule_looks_at {r : Ru} (h : okR r = true) : frule_looks [.im (ruD r)] = .ok (.im (.list [.bool true, .bool true, .bool true, .bool true])) [.im (ruD r)] := by
  simp only [okR, Bool.and_eq_true] at h
  obtain ⟨⟨⟨h1, h2⟩, h3⟩, h4⟩ := h
  have e1 := is_side_at (e := 60) (codes_A h1)
  have e2 := is_letter_at (codes_let h2)
  have e3 := is_side_at (e := 62) (codes_B h3)
  have e4 := is_whole_at (i := r.p) (lo := 0) (hi := 999)
  simp only [okA, okB] at h1 h3
  rw [h1] at e1
  rw [h2] at e2
  rw [h3] at e3
  rw [show (decide (0 ≤ r.p) && decide (r.p ≤ 999)) = true by rw [h4.1, h4.2]; rfl] at e4
  simp [FD.ret, FD.lif, FD.bnd, FD.var, FD.bin, FD.un, FD.tst, FD.andT, FD.orT, FD.notT, FD.andV, FD.orV, FD.notV, FD.ifE, FD.nilA, FD.consA, FD.tupE, FD.lstE, FD.seqS, FD.exprS, FD.retS, FD.retM, FD.ifS, FD.stoM, FD.setS, FD.setM, FD.gN, FD.gsNil, FD.gsCons, FD.gT, FD.goS, FD.asgS, FD.parS, FD.augS, FD.itE, FD.itA, FD.cbE, FD.slE, FD.intE, FD.arN, FD.arD, FD.arB, FD.callD, FD.callM, FD.slotsOf, FD.argM, FD.putB, FD.isIm, FD.endF, FD.backs, FD.args0, FD.defF, FD.chn, FD.lstM, FD.dtM, FD.dkM, FD.imM, FD.frzE, FD.has, FD.chk, FD.pk, FD.pkLen, FD.peekD, FD.pkL, FD.pkR, frule_looks, grule_looks, ruD, first_sg, last_sg, e1, e2, e3, kwA, pick, e4]
/-! ### books -/
def boD (rs : List Ru) : D := .tuple (rs.map ruD)
def okBo (rs : List Ru) : Prop := (∀ r ∈ rs, okR r = true) ∧ rs.length ≤ 80
theorem false_in4 : inA (.bool false) (.list [.bool true, .bool true, .bool true, .bool true]) = some (.bool false) := rfl
theorem need_book_at {rs : List Ru} (h : okBo rs) : fneed_book [.im (boD rs)] = .ok (.im .none) [.im (boD rs)] := by
  obtain ⟨hr, hl⟩ := h
  have key : ∃ e', loopS (gT 2 (gsCons (gN 1) (gsCons (gN 2) gsNil))) (ifS (orT (notT (tst (un (isiD "tuple") (var 2)))) (orT (tst (bin neD (cbE lenD (consA (var 2) nilA)) (ret (.int 4)))) (tst (bin inA (ret (.bool false)) (callD frule_looks (arD (var 2) arN)))))) (fun _ => .no) (ret .nxt)) (enumDs (rs.map ruD)) [some (.im (boD rs)), none, none] = .ok .nxt e' ∧ ∃ x y, e' = [some (.im (boD rs)), x, y] := by
    refine loopS_inv (fun _ e => ∃ x y, e = [some (.im (boD rs)), x, y]) ⟨_, _, rfl⟩ ?_
    rintro d r e ⟨l, hl⟩ ⟨x, y, rfl⟩
    obtain ⟨i, ru, hru, rfl⟩ : ∃ (i : Nat) (ru : Ru), ru ∈ rs ∧ d = .tuple [.int (i : Nat), ruD ru] := by
      have hm : d ∈ enumDs (rs.map ruD) := by rw [hl]; simp
      obtain ⟨i, hi⟩ := List.mem_iff_getElem?.mp hm
      obtain ⟨y, hy, rfl⟩ := enum_get hi
      rw [List.getElem?_map] at hy
      obtain ⟨ru, h1, rfl⟩ := Option.map_eq_some_iff.mp hy
      exact ⟨i, ru, List.mem_of_getElem? h1, rfl⟩
    have e1 := rule_looks_at (hr ru hru)
    refine ⟨_, [some (.im (boD rs)), some (.im (.int (i : Nat))), some (.im (ruD ru))], rfl, .inl ?_, _, _, rfl⟩
    have f4 := false_in4
    simp only [ruD] at e1 ⊢
    simp [FD.ret, FD.lif, FD.bnd, FD.var, FD.bin, FD.un, FD.tst, FD.andT, FD.orT, FD.notT, FD.andV, FD.orV, FD.notV, FD.ifE, FD.nilA, FD.consA, FD.tupE, FD.lstE, FD.seqS, FD.exprS, FD.retS, FD.retM, FD.ifS, FD.stoM, FD.setS, FD.setM, FD.gN, FD.gsNil, FD.gsCons, FD.gT, FD.goS, FD.asgS, FD.parS, FD.augS, FD.itE, FD.itA, FD.cbE, FD.slE, FD.intE, FD.arN, FD.arD, FD.arB, FD.callD, FD.callM, FD.slotsOf, FD.argM, FD.putB, FD.isIm, FD.endF, FD.backs, FD.args0, FD.defF, FD.chn, FD.lstM, FD.dtM, FD.dkM, FD.imM, FD.frzE, FD.has, FD.chk, FD.pk, FD.pkLen, FD.peekD, FD.pkL, FD.pkR, e1, f4]
  obtain ⟨e', k1, x, y, rfl⟩ := key
  have hl' : ¬ (80 : Int) < ((rs.length : Nat) : Int) := by omega
  have b1 : gneed_book [some (.im (boD rs)), none, none] = .ok .nxt [some (.im (boD rs)), x, y] := by
    unfold gneed_book
    rw [seqS_nxt (e' := [some (.im (boD rs)), none, none]) (by simp [FD.ret, FD.lif, FD.bnd, FD.var, FD.bin, FD.un, FD.tst, FD.andT, FD.orT, FD.notT, FD.andV, FD.orV, FD.notV, FD.ifE, FD.nilA, FD.consA, FD.tupE, FD.lstE, FD.seqS, FD.exprS, FD.retS, FD.retM, FD.ifS, FD.stoM, FD.setS, FD.setM, FD.gN, FD.gsNil, FD.gsCons, FD.gT, FD.goS, FD.asgS, FD.parS, FD.augS, FD.itE, FD.itA, FD.cbE, FD.slE, FD.intE, FD.arN, FD.arD, FD.arB, FD.callD, FD.callM, FD.slotsOf, FD.argM, FD.putB, FD.isIm, FD.endF, FD.backs, FD.args0, FD.defF, FD.chn, FD.lstM, FD.dtM, FD.dkM, FD.imM, FD.frzE, FD.has, FD.chk, FD.pk, FD.pkLen, FD.peekD, FD.pkL, FD.pkR, boD, hl'])]
    rw [forS_eq (ds := enumDs (rs.map ruD)) (e0 := [some (.im (boD rs)), none, none]) (by simp [FD.ret, FD.lif, FD.bnd, FD.var, FD.bin, FD.un, FD.tst, FD.andT, FD.orT, FD.notT, FD.andV, FD.orV, FD.notV, FD.ifE, FD.nilA, FD.consA, FD.tupE, FD.lstE, FD.seqS, FD.exprS, FD.retS, FD.retM, FD.ifS, FD.stoM, FD.setS, FD.setM, FD.gN, FD.gsNil, FD.gsCons, FD.gT, FD.goS, FD.asgS, FD.parS, FD.augS, FD.itE, FD.itA, FD.cbE, FD.slE, FD.intE, FD.arN, FD.arD, FD.arB, FD.callD, FD.callM, FD.slotsOf, FD.argM, FD.putB, FD.isIm, FD.endF, FD.backs, FD.args0, FD.defF, FD.chn, FD.lstM, FD.dtM, FD.dkM, FD.imM, FD.frzE, FD.has, FD.chk, FD.pk, FD.pkLen, FD.peekD, FD.pkL, FD.pkR, boD, enA])]
    exact k1
  simp [FD.ret, FD.lif, FD.bnd, FD.var, FD.bin, FD.un, FD.tst, FD.andT, FD.orT, FD.notT, FD.andV, FD.orV, FD.notV, FD.ifE, FD.nilA, FD.consA, FD.tupE, FD.lstE, FD.seqS, FD.exprS, FD.retS, FD.retM, FD.ifS, FD.stoM, FD.setS, FD.setM, FD.gN, FD.gsNil, FD.gsCons, FD.gT, FD.goS, FD.asgS, FD.parS, FD.augS, FD.itE, FD.itA, FD.cbE, FD.slE, FD.intE, FD.arN, FD.arD, FD.arB, FD.callD, FD.callM, FD.slotsOf, FD.argM, FD.putB, FD.isIm, FD.endF, FD.backs, FD.args0, FD.defF, FD.chn, FD.lstM, FD.dtM, FD.dkM, FD.imM, FD.frzE, FD.has, FD.chk, FD.pk, FD.pkLen, FD.peekD, FD.pkL, FD.pkR, fneed_book, b1]
/-! ### cases -/
structure Ca where
  a : Nat
  l : Nat
  b : Nat
deriving DecidableEq
def caD (c : Ca) : D := .tuple [.str (sg c.a), .str (sg c.l), .str (sg c.b)]
def fits (r : Ru) (c : Ca) : Bool := r.l == c.l && ((c.a == r.a || 42 == r.a) && (c.b == r.b || 42 == r.b))
theorem fits_at {r : Ru} {c : Ca} : ffits_case [.im (ruD r), .im (caD c)] = .ok (.im (.bool (fits r c))) [.im (ruD r), .im (caD c)] := by
  cases q1 : r.l == c.l <;> cases q2 : (c.a == r.a || 42 == r.a) <;> simp [FD.ret, FD.lif, FD.bnd, FD.var, FD.bin, FD.un, FD.tst, FD.andT, FD.orT, FD.notT, FD.andV, FD.orV, FD.notV, FD.ifE, FD.nilA, FD.consA, FD.tupE, FD.lstE, FD.seqS, FD.exprS, FD.retS, FD.retM, FD.ifS, FD.stoM, FD.setS, FD.setM, FD.gN, FD.gsNil, FD.gsCons, FD.gT, FD.goS, FD.asgS, FD.parS, FD.augS, FD.itE, FD.itA, FD.cbE, FD.slE, FD.intE, FD.arN, FD.arD, FD.arB, FD.callD, FD.callM, FD.slotsOf, FD.argM, FD.putB, FD.isIm, FD.endF, FD.backs, FD.args0, FD.defF, FD.chn, FD.lstM, FD.dtM, FD.dkM, FD.imM, FD.frzE, FD.has, FD.chk, FD.pk, FD.pkLen, FD.peekD, FD.pkL, FD.pkR, ffits_case, gfits_case, ruD, caD, fits, star_sg, q1, q2]
def letters : List Nat := (List.range 26).map (· + 97)
def signsF (c e : Nat) : List Nat := if c = 42 then e :: letters else [c]
theorem chars_let : chars "abcdefghijklmnopqrstuvwxyz" = letters.map fun c => .str (sg c) := by rfl
theorem tuple_let : tupleD [.str "abcdefghijklmnopqrstuvwxyz"] = some (.tuple (letters.map fun c => .str (sg c))) := by rfl
theorem signs_for_at {c e : Nat} : fsigns_for [.im (.str (sg c)), .im (.str (sg e))] = .ok (.im (.tuple ((signsF c e).map fun c => .str (sg c)))) [.im (.str (sg c)), .im (.str (sg e))] := by
  by_cases h : c = 42
  · subst h
    have hl : letters.length = 26 := by decide
    simp [FD.ret, FD.lif, FD.bnd, FD.var, FD.bin, FD.un, FD.tst, FD.andT, FD.orT, FD.notT, FD.andV, FD.orV, FD.notV, FD.ifE, FD.nilA, FD.consA, FD.tupE, FD.lstE, FD.seqS, FD.exprS, FD.retS, FD.retM, FD.ifS, FD.stoM, FD.setS, FD.setM, FD.gN, FD.gsNil, FD.gsCons, FD.gT, FD.goS, FD.asgS, FD.parS, FD.augS, FD.itE, FD.itA, FD.cbE, FD.slE, FD.intE, FD.arN, FD.arD, FD.arB, FD.callD, FD.callM, FD.slotsOf, FD.argM, FD.putB, FD.isIm, FD.endF, FD.backs, FD.args0, FD.defF, FD.chn, FD.lstM, FD.dtM, FD.dkM, FD.imM, FD.frzE, FD.has, FD.chk, FD.pk, FD.pkLen, FD.peekD, FD.pkL, FD.pkR, fsigns_for, gsigns_for, star_sg, tuple_let, signsF, hl]
  · simp [FD.ret, FD.lif, FD.bnd, FD.var, FD.bin, FD.un, FD.tst, FD.andT, FD.orT, FD.notT, FD.andV, FD.orV, FD.notV, FD.ifE, FD.nilA, FD.consA, FD.tupE, FD.lstE, FD.seqS, FD.exprS, FD.retS, FD.retM, FD.ifS, FD.stoM, FD.setS, FD.setM, FD.gN, FD.gsNil, FD.gsCons, FD.gT, FD.goS, FD.asgS, FD.parS, FD.augS, FD.itE, FD.itA, FD.cbE, FD.slE, FD.intE, FD.arN, FD.arD, FD.arB, FD.callD, FD.callM, FD.slotsOf, FD.argM, FD.putB, FD.isIm, FD.endF, FD.backs, FD.args0, FD.defF, FD.chn, FD.lstM, FD.dtM, FD.dkM, FD.imM, FD.frzE, FD.has, FD.chk, FD.pk, FD.pkLen, FD.peekD, FD.pkL, FD.pkR, fsigns_for, gsigns_for, star_sg, signsF, h]
def casesOf (r : Ru) : List Ca := (signsF r.a 60).flatMap fun x => (signsF r.b 62).map fun y => ⟨x, r.l, y⟩
theorem signsF_len (c e : Nat) : (signsF c e).length ≤ 27 := by
  unfold signsF
  split
  · have : letters.length = 26 := by decide
    simp [FD.ret, FD.lif, FD.bnd, FD.var, FD.bin, FD.un, FD.tst, FD.andT, FD.orT, FD.notT, FD.andV, FD.orV, FD.notV, FD.ifE, FD.nilA, FD.consA, FD.tupE, FD.lstE, FD.seqS, FD.exprS, FD.retS, FD.retM, FD.ifS, FD.stoM, FD.setS, FD.setM, FD.gN, FD.gsNil, FD.gsCons, FD.gT, FD.goS, FD.asgS, FD.parS, FD.augS, FD.itE, FD.itA, FD.cbE, FD.slE, FD.intE, FD.arN, FD.arD, FD.arB, FD.callD, FD.callM, FD.slotsOf, FD.argM, FD.putB, FD.isIm, FD.endF, FD.backs, FD.args0, FD.defF, FD.chn, FD.lstM, FD.dtM, FD.dkM, FD.imM, FD.frzE, FD.has, FD.chk, FD.pk, FD.pkLen, FD.peekD, FD.pkL, FD.pkR, this]
  · simp
theorem cases_len (r : Ru) : (casesOf r).length ≤ 729 := by
  unfold casesOf
  rw [List.length_flatMap]
  have h1 := signsF_len r.a 60
  have h2 := signsF_len r.b 62
  have : ∀ l : List Nat, (l.map fun x => ((signsF r.b 62).map fun y => (⟨x, r.l, y⟩ : Ca)).length).sum ≤ l.length * 27 := by
    intro l
    induction l with
    | nil => simp
    | cons x l ih =>
      rw [List.map_cons, List.sum_cons, List.length_cons, List.length_map]
      omega
  have := this (signsF r.a 60)
  omega
def rowOf (r : Ru) : D → List D
  | .str x => (signsF r.b 62).map fun y => PyData.tuple [.str x, .str (sg r.l), .str (sg y)]
  | _ => []
theorem rule_cases_at {r : Ru} : frule_cases [.im (ruD r)] = .ok (.im (.list ((casesOf r).map caD))) [.im (ruD r)] := by
  have s1 := signs_for_at (c := r.a) (e := 60)
  have s2 := signs_for_at (c := r.b) (e := 62)
  let A : D := .tuple ((signsF r.a 60).map fun c => .str (sg c))
  let Bh : D := .tuple ((signsF r.b 62).map fun c => .str (sg c))
  have b1 : grule_cases [some (.im (ruD r)), none, none, none, none] = .ok (.ret (.im (.list ((casesOf r).map caD)))) [some (.im (ruD r)), some (.im A), some (.im Bh), none, none] := by
    unfold grule_cases
    rw [seqS_nxt (e' := [some (.im (ruD r)), some (.im A), some (.im Bh), none, none]) (by simp [FD.ret, FD.lif, FD.bnd, FD.var, FD.bin, FD.un, FD.tst, FD.andT, FD.orT, FD.notT, FD.andV, FD.orV, FD.notV, FD.ifE, FD.nilA, FD.consA, FD.tupE, FD.lstE, FD.seqS, FD.exprS, FD.retS, FD.retM, FD.ifS, FD.stoM, FD.setS, FD.setM, FD.gN, FD.gsNil, FD.gsCons, FD.gT, FD.goS, FD.asgS, FD.parS, FD.augS, FD.itE, FD.itA, FD.cbE, FD.slE, FD.intE, FD.arN, FD.arD, FD.arB, FD.callD, FD.callM, FD.slotsOf, FD.argM, FD.putB, FD.isIm, FD.endF, FD.backs, FD.args0, FD.defF, FD.chn, FD.lstM, FD.dtM, FD.dkM, FD.imM, FD.frzE, FD.has, FD.chk, FD.pk, FD.pkLen, FD.peekD, FD.pkL, FD.pkR, ruD, first_sg, last_sg, s1, s2, A, Bh])]
    have fl : ((signsF r.a 60).map fun c => PyData.str (sg c)).flatMap (rowOf r) = (casesOf r).map caD := by
      unfold casesOf
      rw [List.flatMap_map, List.map_flatMap]
      congr 1
      funext x
      show (signsF r.b 62).map _ = _
      rw [List.map_map]
      rfl
    have ce := compE2_eq (vs := [3, 4]) (vs1 := [4]) (fi := itE itX (var 1)) (t := gN 3) (tt := ret true) (fi1 := itE itX (var 2)) (t1 := gN 4) (tt1 := ret true) (te := tupE (consA (var 3) (consA (bin ixA (var 0) (ret (.int 1))) (consA (var 4) nilA))))
      (e := [some (.im (ruD r)), some (.im A), some (.im Bh), none, none]) (e0 := [some (.im (ruD r)), some (.im A), some (.im Bh), none, none]) (ds := (signsF r.a 60).map fun c => PyData.str (sg c))
      (f := rowOf r) (by simp [FD.ret, FD.lif, FD.bnd, FD.var, FD.bin, FD.un, FD.tst, FD.andT, FD.orT, FD.notT, FD.andV, FD.orV, FD.notV, FD.ifE, FD.nilA, FD.consA, FD.tupE, FD.lstE, FD.seqS, FD.exprS, FD.retS, FD.retM, FD.ifS, FD.stoM, FD.setS, FD.setM, FD.gN, FD.gsNil, FD.gsCons, FD.gT, FD.goS, FD.asgS, FD.parS, FD.augS, FD.itE, FD.itA, FD.cbE, FD.slE, FD.intE, FD.arN, FD.arD, FD.arB, FD.callD, FD.callM, FD.slotsOf, FD.argM, FD.putB, FD.isIm, FD.endF, FD.backs, FD.args0, FD.defF, FD.chn, FD.lstM, FD.dtM, FD.dkM, FD.imM, FD.frzE, FD.has, FD.chk, FD.pk, FD.pkLen, FD.peekD, FD.pkL, FD.pkR, A]) rfl rfl rfl (by rw [fl, List.length_map]; have := cases_len r; omega) ?_
    · rw [fl] at ce
      simp only [retS, bnd]
      rw [ce]
      rfl
    · intro d hd
      obtain ⟨x, hx, rfl⟩ := List.mem_map.mp hd
      refine ⟨_, _, (signsF r.b 62).map fun c => PyData.str (sg c), _, [some (.im (ruD r)), some (.im A), some (.im Bh), some (.im (.str (sg x))), none], rfl, rfl, by simp [FD.ret, FD.lif, FD.bnd, FD.var, FD.bin, FD.un, FD.tst, FD.andT, FD.orT, FD.notT, FD.andV, FD.orV, FD.notV, FD.ifE, FD.nilA, FD.consA, FD.tupE, FD.lstE, FD.seqS, FD.exprS, FD.retS, FD.retM, FD.ifS, FD.stoM, FD.setS, FD.setM, FD.gN, FD.gsNil, FD.gsCons, FD.gT, FD.goS, FD.asgS, FD.parS, FD.augS, FD.itE, FD.itA, FD.cbE, FD.slE, FD.intE, FD.arN, FD.arD, FD.arB, FD.callD, FD.callM, FD.slotsOf, FD.argM, FD.putB, FD.isIm, FD.endF, FD.backs, FD.args0, FD.defF, FD.chn, FD.lstM, FD.dtM, FD.dkM, FD.imM, FD.frzE, FD.has, FD.chk, FD.pk, FD.pkLen, FD.peekD, FD.pkL, FD.pkR, wipeE, Bh]; rfl, rfl, ?_, rfl, rfl⟩
      have cl := compL_eq (vs := [4]) (t := gN 4) (tt := ret true) (te := tupE (consA (var 3) (consA (bin ixA (var 0) (ret (.int 1))) (consA (var 4) nilA)))) (e := [some (.im (ruD r)), some (.im A), some (.im Bh), some (.im (.str (sg x))), none])
        (f := fun d => some (PyData.tuple [.str (sg x), .str (sg r.l), d])) (ds := (signsF r.b 62).map fun c => PyData.str (sg c)) ?_
      · rw [List.filterMap_eq_map', List.map_map] at cl
        exact cl
      · intro d hd
        obtain ⟨y, hy, rfl⟩ := List.mem_map.mp hd
        exact ⟨_, rfl, .inr ⟨_, rfl, _, _, rfl, by simp [FD.ret, FD.lif, FD.bnd, FD.var, FD.bin, FD.un, FD.tst, FD.andT, FD.orT, FD.notT, FD.andV, FD.orV, FD.notV, FD.ifE, FD.nilA, FD.consA, FD.tupE, FD.lstE, FD.seqS, FD.exprS, FD.retS, FD.retM, FD.ifS, FD.stoM, FD.setS, FD.setM, FD.gN, FD.gsNil, FD.gsCons, FD.gT, FD.goS, FD.asgS, FD.parS, FD.augS, FD.itE, FD.itA, FD.cbE, FD.slE, FD.intE, FD.arN, FD.arD, FD.arB, FD.callD, FD.callM, FD.slotsOf, FD.argM, FD.putB, FD.isIm, FD.endF, FD.backs, FD.args0, FD.defF, FD.chn, FD.lstM, FD.dtM, FD.dkM, FD.imM, FD.frzE, FD.has, FD.chk, FD.pk, FD.pkLen, FD.peekD, FD.pkL, FD.pkR, ruD]; rfl, rfl, rfl⟩⟩
  simp [FD.ret, FD.lif, FD.bnd, FD.var, FD.bin, FD.un, FD.tst, FD.andT, FD.orT, FD.notT, FD.andV, FD.orV, FD.notV, FD.ifE, FD.nilA, FD.consA, FD.tupE, FD.lstE, FD.seqS, FD.exprS, FD.retS, FD.retM, FD.ifS, FD.stoM, FD.setS, FD.setM, FD.gN, FD.gsNil, FD.gsCons, FD.gT, FD.goS, FD.asgS, FD.parS, FD.augS, FD.itE, FD.itA, FD.cbE, FD.slE, FD.intE, FD.arN, FD.arD, FD.arB, FD.callD, FD.callM, FD.slotsOf, FD.argM, FD.putB, FD.isIm, FD.endF, FD.backs, FD.args0, FD.defF, FD.chn, FD.lstM, FD.dtM, FD.dkM, FD.imM, FD.frzE, FD.has, FD.chk, FD.pk, FD.pkLen, FD.peekD, FD.pkL, FD.pkR, frule_cases, b1]
end FDL

namespace FDL
open PySem L2 FD
/-! ### the table of prices -/
def caK (c : Ca) : List Key := [.inr (sg c.a), .inr (sg c.l), .inr (sg c.b)]
theorem caK_inj {c d : Ca} (h : caK c = caK d) : c = d := by
  obtain ⟨a, l, b⟩ := c
  obtain ⟨a', l', b'⟩ := d
  simp only [caK, List.cons.injEq, Sum.inr.injEq, and_true] at h
  rw [sg_inj h.1, sg_inj h.2.1, sg_inj h.2.2]
abbrev Tb := List (Ca × Int)
def kms (tb : Tb) : List (List Key × M) := tb.map fun q => (caK q.1, M.im (.int q.2))
theorem look_kms {c : Ca} : ∀ tb : Tb, lookK (kms tb) (caK c) = (lookK tb c).map fun p => M.im (.int p)
  | [] => rfl
  | q :: tb => by
    show lookK ((caK q.1, M.im (.int q.2)) :: kms tb) (caK c) = _
    by_cases h : q.1 = c
    · rw [lookK_pos (p := (caK q.1, M.im (.int q.2))) (by rw [h]), lookK_pos h]; rfl
    · rw [lookK_neg (p := (caK q.1, M.im (.int q.2))) (fun z => h (caK_inj z)), lookK_neg h, look_kms tb]
theorem any_kms {c : Ca} : ∀ tb : Tb, ((kms tb).any fun kv => decide (kv.1 = caK c)) = tb.any fun kv => decide (kv.1 = c)
  | [] => rfl
  | q :: tb => by
    show (decide (caK q.1 = caK c) || (kms tb).any _) = (decide (q.1 = c) || tb.any _)
    rw [any_kms tb]
    congr 1
    by_cases h : q.1 = c
    · rw [h]; simp
    · rw [decide_eq_false h, decide_eq_false fun z => h (caK_inj z)]
theorem put_kms {c : Ca} {v : Int} (tb : Tb) : putKK (kms tb) (caK c) (M.im (.int v)) = kms (putKK tb c v) := by
  unfold putKK
  rw [any_kms]
  split
  · unfold kms
    rw [List.map_map, List.map_map]
    refine List.map_congr_left fun q _ => ?_
    show (if caK q.1 = caK c then (caK q.1, M.im (.int v)) else (caK q.1, M.im (.int q.2))) = (caK (if q.1 = c then (q.1, v) else q).1, M.im (.int (if q.1 = c then (q.1, v) else q).2))
    by_cases h : q.1 = c
    · rw [if_pos h, if_pos (by rw [h])]
    · rw [if_neg h, if_neg fun z => h (caK_inj z)]
  · unfold kms
    rw [List.map_append]
    rfl
theorem im_kms {k : List Key} : ∀ tb : Tb, imK (kms tb) k = true
  | [] => rfl
  | q :: tb => by
    show ((!decide (caK q.1 = k) || true) && imK (kms tb) k) = true
    rw [im_kms tb]
    simp
theorem put_len {c : Ca} {v : Int} (tb : Tb) : (putKK tb c v).length ≤ tb.length + 1 := by
  unfold putKK
  split
  · rw [List.length_map]; omega
  · simp
def minP (p : Int) (o : Option Int) : Int := if o.getD p < p then o.getD p else p
def putC (p : Int) (tb : Tb) (c : Ca) : Tb := putKK tb c (minP p (lookK tb c))
def putR (tb : Tb) (r : Ru) : Tb := (casesOf r).foldl (putC r.p) tb
def table (rs : List Ru) : Tb := rs.foldl putR []
theorem putC_len {p : Int} : ∀ (cs : List Ca) (tb : Tb), (cs.foldl (putC p) tb).length ≤ tb.length + cs.length
  | [], tb => Nat.le_refl _
  | c :: cs, tb => by
    rw [List.foldl_cons, List.length_cons]
    have h1 := putC_len (p := p) cs (putC p tb c)
    have h2 : (putC p tb c).length ≤ tb.length + 1 := put_len tb
    omega
theorem ks_ca {c : Ca} : ksOf (caD c) = some (caK c) := rfl
theorem len_kms (tb : Tb) : (kms tb).length = tb.length := by simp [FD.ret, FD.lif, FD.bnd, FD.var, FD.bin, FD.un, FD.tst, FD.andT, FD.orT, FD.notT, FD.andV, FD.orV, FD.notV, FD.ifE, FD.nilA, FD.consA, FD.tupE, FD.lstE, FD.seqS, FD.exprS, FD.retS, FD.retM, FD.ifS, FD.stoM, FD.setS, FD.setM, FD.gN, FD.gsNil, FD.gsCons, FD.gT, FD.goS, FD.asgS, FD.parS, FD.augS, FD.itE, FD.itA, FD.cbE, FD.slE, FD.intE, FD.arN, FD.arD, FD.arB, FD.callD, FD.callM, FD.slotsOf, FD.argM, FD.putB, FD.isIm, FD.endF, FD.backs, FD.args0, FD.defF, FD.chn, FD.lstM, FD.dtM, FD.dkM, FD.imM, FD.frzE, FD.has, FD.chk, FD.pk, FD.pkLen, FD.peekD, FD.pkL, FD.pkR, kms]
theorem store_at {tb : Tb} {c : Ca} {r : Ru} {b : D} (hl : tb.length < 900000) :
    storeS 1 (var 3) (cbE minD (consA (FD.bin ixA (var 2) (FD.ret (.int 3))) (consA (pkGet 1 (consA (var 3) (consA (FD.bin ixA (var 2) (FD.ret (.int 3))) nilA))) nilA))) [some (.im b), some (.dt (kms tb)), some (.im (ruD r)), some (.im (caD c))]
      = .ok .nxt [some (.im b), some (.dt (kms (putC r.p tb c))), some (.im (ruD r)), some (.im (caD c))] := by
  have g1 : getM 1 (caD c) (.int r.p) [some (.im b), some (.dt (kms tb)), some (.im (ruD r)), some (.im (caD c))] = some (.int ((lookK tb c).getD r.p)) := by
    simp only [getM, List.getElem?_cons_succ, List.getElem?_cons_zero, ks_ca, look_kms]
    cases lookK tb c <;> rfl
  have g2 : storeM 1 (caD c) (.int (minP r.p (lookK tb c))) [some (.im b), some (.dt (kms tb)), some (.im (ruD r)), some (.im (caD c))] = .ok .nxt [some (.im b), some (.dt (kms (putC r.p tb c))), some (.im (ruD r)), some (.im (caD c))] := by
    simp only [storeM, List.getElem?_cons_succ, List.getElem?_cons_zero, ks_ca, im_kms, Bool.and_true, len_kms]
    rw [if_pos (few_le' (by omega)), put_kms]
    rfl
  have g3 : pkGet 1 (consA (var 3) (consA (FD.bin ixA (var 2) (FD.ret (.int 3))) nilA)) [some (.im b), some (.dt (kms tb)), some (.im (ruD r)), some (.im (caD c))] = .ok (.int ((lookK tb c).getD r.p)) [some (.im b), some (.dt (kms tb)), some (.im (ruD r)), some (.im (caD c))] := by
    simp [FD.ret, FD.lif, FD.bnd, FD.var, FD.bin, FD.un, FD.tst, FD.andT, FD.orT, FD.notT, FD.andV, FD.orV, FD.notV, FD.ifE, FD.nilA, FD.consA, FD.tupE, FD.lstE, FD.seqS, FD.exprS, FD.retS, FD.retM, FD.ifS, FD.stoM, FD.setS, FD.setM, FD.gN, FD.gsNil, FD.gsCons, FD.gT, FD.goS, FD.asgS, FD.parS, FD.augS, FD.itE, FD.itA, FD.cbE, FD.slE, FD.intE, FD.arN, FD.arD, FD.arB, FD.callD, FD.callM, FD.slotsOf, FD.argM, FD.putB, FD.isIm, FD.endF, FD.backs, FD.args0, FD.defF, FD.chn, FD.lstM, FD.dtM, FD.dkM, FD.imM, FD.frzE, FD.has, FD.chk, FD.pk, FD.pkLen, FD.peekD, FD.pkL, FD.pkR, pkGet, isDkt, ruD]
    simp only [ruD] at g1
    rw [g1]
  have g4 : minD [.int r.p, .int ((lookK tb c).getD r.p)] = some (.int (minP r.p (lookK tb c))) := rfl
  have c1 : cbE minD (consA (FD.bin ixA (var 2) (FD.ret (.int 3))) (consA (pkGet 1 (consA (var 3) (consA (FD.bin ixA (var 2) (FD.ret (.int 3))) nilA))) nilA)) [some (.im b), some (.dt (kms tb)), some (.im (ruD r)), some (.im (caD c))] = .ok (.int (minP r.p (lookK tb c))) [some (.im b), some (.dt (kms tb)), some (.im (ruD r)), some (.im (caD c))] := by
    have h1 : FD.bin ixA (var 2) (FD.ret (.int 3)) [some (.im b), some (.dt (kms tb)), some (.im (ruD r)), some (.im (caD c))] = .ok (.int r.p) [some (.im b), some (.dt (kms tb)), some (.im (ruD r)), some (.im (caD c))] := rfl
    exact cbE_eq (consA_eq h1 (consA_eq g3 rfl)) g4
  unfold storeS bnd
  rw [c1]
  exact g2
/-- one rule's cases put in -/
theorem cases_loop {r : Ru} {b : D} : ∀ (cs : List Ca) (tb : Tb) (x : Option M), tb.length + cs.length < 900000 → ∃ y, loopS (gN 3) (storeS 1 (var 3) (cbE minD (consA (FD.bin ixA (var 2) (FD.ret (.int 3))) (consA (pkGet 1 (consA (var 3) (consA (FD.bin ixA (var 2) (FD.ret (.int 3))) nilA))) nilA)))) (cs.map caD)
    [some (.im b), some (.dt (kms tb)), some (.im (ruD r)), x] = .ok .nxt [some (.im b), some (.dt (kms (cs.foldl (putC r.p) tb))), some (.im (ruD r)), y]
  | [], tb, x, _ => ⟨x, rfl⟩
  | c :: cs, tb, x, hl => by
    rw [List.length_cons] at hl
    have h3 : (putC r.p tb c).length ≤ tb.length + 1 := put_len tb
    obtain ⟨y, e⟩ := cases_loop (r := r) (b := b) cs (putC r.p tb c) (some (.im (caD c))) (by omega)
    refine ⟨y, ?_⟩
    rw [List.map_cons, List.foldl_cons]
    have g1 : gN 3 (caD c) [some (.im b), some (.dt (kms tb)), some (.im (ruD r)), x] = .ok () [some (.im b), some (.dt (kms tb)), some (.im (ruD r)), some (.im (caD c))] := rfl
    rw [loopS_cons g1 (store_at (tb := tb) (c := c) (r := r) (b := b) (by omega)), e]
/-- all the rules' -/
theorem rules_loop {b : D} : ∀ (rs : List Ru) (tb : Tb) (x y : Option M), tb.length + rs.length * 729 < 900000 → ∃ x' y', loopS (gN 2) (forS (itE itX (callD frule_cases (arD (var 2) arN))) (gN 3) (storeS 1 (var 3) (cbE minD (consA (FD.bin ixA (var 2) (FD.ret (.int 3))) (consA (pkGet 1 (consA (var 3) (consA (FD.bin ixA (var 2) (FD.ret (.int 3))) nilA))) nilA))))) (rs.map ruD)
    [some (.im b), some (.dt (kms tb)), x, y] = .ok .nxt [some (.im b), some (.dt (kms (rs.foldl putR tb))), x', y']
  | [], tb, x, y, _ => ⟨x, y, rfl⟩
  | r :: rs, tb, x, y, hl => by
    rw [List.length_cons] at hl
    have hc := cases_len r
    have hp : (putR tb r).length ≤ tb.length + (casesOf r).length := putC_len _ _
    obtain ⟨z, hz⟩ := cases_loop (r := r) (b := b) (casesOf r) tb y (by omega)
    obtain ⟨x', y', ih⟩ := rules_loop (b := b) rs (putR tb r) (some (.im (ruD r))) z (by omega)
    refine ⟨x', y', ?_⟩
    rw [List.map_cons, List.foldl_cons]
    have g1 : gN 2 (ruD r) [some (.im b), some (.dt (kms tb)), x, y] = .ok () [some (.im b), some (.dt (kms tb)), some (.im (ruD r)), y] := rfl
    have g2 : itE itX (callD frule_cases (arD (var 2) arN)) [some (.im b), some (.dt (kms tb)), some (.im (ruD r)), y] = .ok ((casesOf r).map caD) [some (.im b), some (.dt (kms tb)), some (.im (ruD r)), y] := itE_eq (call1 rfl rule_cases_at rfl) rfl
    rw [loopS_cons g1 (by rw [forS_eq g2]; exact hz)]
    exact ih
theorem toD_kms : ∀ tb : Tb, (M.dt (kms tb)).toD = some (.dict (tb.map fun q => (caD q.1, .int q.2))) := by
  intro tb
  have h1 : imAll ((kms tb).map (·.2)) = some (tb.map fun q => PyData.int q.2) := by
    have e : (kms tb).map (·.2) = (tb.map fun q => PyData.int q.2).map M.im := by
      unfold kms
      rw [List.map_map, List.map_map]
      rfl
    rw [e, imAll_im]
  have h2 : ((kms tb).map (·.1)).zip (tb.map fun q => PyData.int q.2) = tb.map fun q => (caK q.1, PyData.int q.2) := by
    unfold kms
    rw [List.map_map, List.zip_map', ]
    rfl
  show (imAll ((kms tb).map (·.2))).map _ = _
  rw [h1]
  show some (PyData.dict ((((kms tb).map (·.1)).zip (tb.map fun q => PyData.int q.2)).map _)) = _
  rw [h2, List.map_map]
  rfl
def tbD (tb : Tb) : D := .dict (tb.map fun q => (caD q.1, .int q.2))
theorem price_table_at {rs : List Ru} (h : rs.length ≤ 80) : fprice_table [.im (boD rs)] = .ok (.im (tbD (table rs))) [.im (boD rs)] := by
  obtain ⟨x', y', hl⟩ := rules_loop (b := boD rs) rs [] none none (by simp; omega)
  have b1 : gprice_table [some (.im (boD rs)), none, none, none] = .ok (.ret (.im (tbD (table rs)))) [some (.im (boD rs)), some (.im (tbD (table rs))), x', y'] := by
    unfold gprice_table
    rw [seqS_nxt (e' := [some (.im (boD rs)), some (.dt (kms [])), none, none]) (by rfl)]
    rw [seqS_nxt (e' := [some (.im (boD rs)), some (.dt (kms (table rs))), x', y']) (by rw [forS_eq (ds := rs.map ruD) (e0 := [some (.im (boD rs)), some (.dt (kms [])), none, none]) (by rfl)]; exact hl)]
    refine ret_eq ?_
    have := toD_kms (table rs)
    simp only [var, List.getElem?_cons_succ, List.getElem?_cons_zero, this]
    rfl
  simp [FD.ret, FD.lif, FD.bnd, FD.var, FD.bin, FD.un, FD.tst, FD.andT, FD.orT, FD.notT, FD.andV, FD.orV, FD.notV, FD.ifE, FD.nilA, FD.consA, FD.tupE, FD.lstE, FD.seqS, FD.exprS, FD.retS, FD.retM, FD.ifS, FD.stoM, FD.setS, FD.setM, FD.gN, FD.gsNil, FD.gsCons, FD.gT, FD.goS, FD.asgS, FD.parS, FD.augS, FD.itE, FD.itA, FD.cbE, FD.slE, FD.intE, FD.arN, FD.arD, FD.arB, FD.callD, FD.callM, FD.slotsOf, FD.argM, FD.putB, FD.isIm, FD.endF, FD.backs, FD.args0, FD.defF, FD.chn, FD.lstM, FD.dtM, FD.dkM, FD.imM, FD.frzE, FD.has, FD.chk, FD.pk, FD.pkLen, FD.peekD, FD.pkL, FD.pkR, fprice_table, b1]
end FDL

namespace FDL
open PySem L2 FD
/-! ### tables, plainly -/
section
variable {κ α : Type} [DecidableEq κ]
theorem lookK_any (k : κ) : ∀ l : List (κ × α), (l.any fun kv => decide (kv.1 = k)) = (lookK l k).isSome
  | [] => rfl
  | q :: l => by
    by_cases h : q.1 = k
    · rw [lookK_pos h, List.any_cons, decide_eq_true h]; rfl
    · rw [lookK_neg h, List.any_cons, decide_eq_false h, Bool.false_or, lookK_any k l]
theorem lookK_repl (k c : κ) (v : α) : ∀ l : List (κ × α), lookK (l.map fun kv => if kv.1 = k then (kv.1, v) else kv) c = (lookK l c).map fun x => if c = k then v else x
  | [] => rfl
  | q :: l => by
    rw [List.map_cons]
    by_cases h : q.1 = k
    · rw [if_pos h]
      by_cases hc : q.1 = c
      · rw [lookK_pos (p := (q.1, v)) hc, lookK_pos hc]
        simp [FD.ret, FD.lif, FD.bnd, FD.var, FD.bin, FD.un, FD.tst, FD.andT, FD.orT, FD.notT, FD.andV, FD.orV, FD.notV, FD.ifE, FD.nilA, FD.consA, FD.tupE, FD.lstE, FD.seqS, FD.exprS, FD.retS, FD.retM, FD.ifS, FD.stoM, FD.setS, FD.setM, FD.gN, FD.gsNil, FD.gsCons, FD.gT, FD.goS, FD.asgS, FD.parS, FD.augS, FD.itE, FD.itA, FD.cbE, FD.slE, FD.intE, FD.arN, FD.arD, FD.arB, FD.callD, FD.callM, FD.slotsOf, FD.argM, FD.putB, FD.isIm, FD.endF, FD.backs, FD.args0, FD.defF, FD.chn, FD.lstM, FD.dtM, FD.dkM, FD.imM, FD.frzE, FD.has, FD.chk, FD.pk, FD.pkLen, FD.peekD, FD.pkL, FD.pkR, ← hc, h]
      · rw [lookK_neg (p := (q.1, v)) hc, lookK_neg hc, lookK_repl k c v l]
    · rw [if_neg h]
      by_cases hc : q.1 = c
      · rw [lookK_pos hc, lookK_pos hc]
        have : ¬ c = k := fun z => h (hc.trans z)
        simp [FD.ret, FD.lif, FD.bnd, FD.var, FD.bin, FD.un, FD.tst, FD.andT, FD.orT, FD.notT, FD.andV, FD.orV, FD.notV, FD.ifE, FD.nilA, FD.consA, FD.tupE, FD.lstE, FD.seqS, FD.exprS, FD.retS, FD.retM, FD.ifS, FD.stoM, FD.setS, FD.setM, FD.gN, FD.gsNil, FD.gsCons, FD.gT, FD.goS, FD.asgS, FD.parS, FD.augS, FD.itE, FD.itA, FD.cbE, FD.slE, FD.intE, FD.arN, FD.arD, FD.arB, FD.callD, FD.callM, FD.slotsOf, FD.argM, FD.putB, FD.isIm, FD.endF, FD.backs, FD.args0, FD.defF, FD.chn, FD.lstM, FD.dtM, FD.dkM, FD.imM, FD.frzE, FD.has, FD.chk, FD.pk, FD.pkLen, FD.peekD, FD.pkL, FD.pkR, this]
      · rw [lookK_neg hc, lookK_neg hc, lookK_repl k c v l]
theorem lookK_snoc (k c : κ) (v : α) : ∀ l : List (κ × α), lookK l k = none → lookK (l ++ [(k, v)]) c = if c = k then some v else lookK l c
  | [], _ => by
    by_cases h : c = k
    · rw [if_pos h, List.nil_append, lookK_pos (p := (k, v)) h.symm]
    · rw [if_neg h, List.nil_append, lookK_neg (p := (k, v)) fun z => h z.symm]
  | q :: l, hn => by
    rw [List.cons_append]
    by_cases h : q.1 = k
    · rw [lookK_pos h] at hn; cases hn
    · rw [lookK_neg h] at hn
      by_cases hc : q.1 = c
      · rw [lookK_pos hc, lookK_pos hc, if_neg fun z => h (hc.trans z)]
      · rw [lookK_neg hc, lookK_neg hc, lookK_snoc k c v l hn]
theorem lookK_put (l : List (κ × α)) (k c : κ) (v : α) : lookK (putKK l k v) c = if c = k then some v else lookK l c := by
  unfold putKK
  rw [lookK_any]
  by_cases h : (lookK l k).isSome = true
  · rw [if_pos h, lookK_repl]
    by_cases hc : c = k
    · subst hc
      rw [if_pos rfl]
      obtain ⟨x, hx⟩ := Option.isSome_iff_exists.mp h
      rw [hx]
      simp
    · rw [if_neg hc]
      cases lookK l c <;> simp [FD.ret, FD.lif, FD.bnd, FD.var, FD.bin, FD.un, FD.tst, FD.andT, FD.orT, FD.notT, FD.andV, FD.orV, FD.notV, FD.ifE, FD.nilA, FD.consA, FD.tupE, FD.lstE, FD.seqS, FD.exprS, FD.retS, FD.retM, FD.ifS, FD.stoM, FD.setS, FD.setM, FD.gN, FD.gsNil, FD.gsCons, FD.gT, FD.goS, FD.asgS, FD.parS, FD.augS, FD.itE, FD.itA, FD.cbE, FD.slE, FD.intE, FD.arN, FD.arD, FD.arB, FD.callD, FD.callM, FD.slotsOf, FD.argM, FD.putB, FD.isIm, FD.endF, FD.backs, FD.args0, FD.defF, FD.chn, FD.lstM, FD.dtM, FD.dkM, FD.imM, FD.frzE, FD.has, FD.chk, FD.pk, FD.pkLen, FD.peekD, FD.pkL, FD.pkR, hc]
  · rw [if_neg h]
    exact lookK_snoc k c v l (by simpa using h)
theorem put_nodup (l : List (κ × α)) (k : κ) (v : α) (h : (l.map (·.1)).Nodup) : ((putKK l k v).map (·.1)).Nodup := by
  unfold putKK
  by_cases c : (l.any fun kv => decide (kv.1 = k)) = true
  · rw [if_pos c, List.map_map]
    have : (l.map ((fun x => x.1) ∘ fun kv => if kv.1 = k then (kv.1, v) else kv)) = l.map (·.1) := List.map_congr_left fun a _ => by
      show (if a.1 = k then (a.1, v) else a).1 = a.1
      split <;> rfl
    rw [this]
    exact h
  · rw [if_neg c, List.map_append]
    refine List.nodup_append.mpr ⟨h, by simp, fun a ha b hb z => c ?_⟩
    simp at hb
    subst hb z
    obtain ⟨q, hq, e⟩ := List.mem_map.mp ha
    exact List.any_eq_true.mpr ⟨q, hq, by simpa using e⟩
end
theorem nd_len {α : Type} [DecidableEq α] : ∀ {a b : List α}, a.Nodup → (∀ x ∈ a, x ∈ b) → a.length ≤ b.length
  | [], _, _, _ => Nat.zero_le _
  | x :: a, b, n, h => by
    rw [List.nodup_cons] at n
    have hx := h x List.mem_cons_self
    have ih := nd_len (a := a) (b := b.erase x) n.2 fun y hy => (List.mem_erase_of_ne (fun z : y = x => n.1 (by rw [← z]; exact hy))).mpr (h y (List.mem_cons_of_mem _ hy))
    rw [List.length_erase_of_mem hx] at ih
    have := List.length_pos_of_mem hx
    rw [List.length_cons]
    omega
theorem minP_idem (p : Int) (o : Option Int) : minP p (some (minP p o)) = minP p o := by
  unfold minP
  cases o with
  | none => simp
  | some v =>
    simp only [Option.getD_some]
    by_cases h : v < p <;> simp [FD.ret, FD.lif, FD.bnd, FD.var, FD.bin, FD.un, FD.tst, FD.andT, FD.orT, FD.notT, FD.andV, FD.orV, FD.notV, FD.ifE, FD.nilA, FD.consA, FD.tupE, FD.lstE, FD.seqS, FD.exprS, FD.retS, FD.retM, FD.ifS, FD.stoM, FD.setS, FD.setM, FD.gN, FD.gsNil, FD.gsCons, FD.gT, FD.goS, FD.asgS, FD.parS, FD.augS, FD.itE, FD.itA, FD.cbE, FD.slE, FD.intE, FD.arN, FD.arD, FD.arB, FD.callD, FD.callM, FD.slotsOf, FD.argM, FD.putB, FD.isIm, FD.endF, FD.backs, FD.args0, FD.defF, FD.chn, FD.lstM, FD.dtM, FD.dkM, FD.imM, FD.frzE, FD.has, FD.chk, FD.pk, FD.pkLen, FD.peekD, FD.pkL, FD.pkR, h]
theorem look_cases (p : Int) (c : Ca) : ∀ (cs : List Ca) (tb : Tb), lookK (cs.foldl (putC p) tb) c = if c ∈ cs then some (minP p (lookK tb c)) else lookK tb c
  | [], tb => by simp
  | d :: cs, tb => by
    rw [List.foldl_cons, look_cases p c cs (putC p tb d)]
    unfold putC
    rw [lookK_put]
    by_cases h : c = d
    · subst h
      simp only [if_true, List.mem_cons, true_or, minP_idem]
      split <;> rfl
    · simp only [List.mem_cons, h, false_or, if_false]
theorem cases_nodup (p : Int) : ∀ (cs : List Ca) (tb : Tb), (tb.map (·.1)).Nodup → ((cs.foldl (putC p) tb).map (·.1)).Nodup
  | [], _, h => h
  | d :: cs, tb, h => by
    rw [List.foldl_cons]
    exact cases_nodup p cs _ (put_nodup tb d _ h)
/-- the least price by the rules behind o -/
def bestF (rs : List Ru) (c : Ca) (o : Option Int) : Option Int := rs.foldl (fun o r => if c ∈ casesOf r then some (minP r.p o) else o) o
theorem look_rules (c : Ca) : ∀ (rs : List Ru) (tb : Tb), lookK (rs.foldl putR tb) c = bestF rs c (lookK tb c)
  | [], _ => rfl
  | r :: rs, tb => by
    rw [List.foldl_cons, look_rules c rs (putR tb r)]
    unfold putR bestF
    rw [List.foldl_cons, look_cases]
theorem table_nodup : ∀ (rs : List Ru) (tb : Tb), (tb.map (·.1)).Nodup → ((rs.foldl putR tb).map (·.1)).Nodup
  | [], _, h => h
  | r :: rs, tb, h => by
    rw [List.foldl_cons]
    exact table_nodup rs _ (cases_nodup _ _ _ h)
def best (rs : List Ru) (c : Ca) : Option Int := bestF rs c none
theorem look_table (rs : List Ru) (c : Ca) : lookK (table rs) c = best rs c := look_rules c rs []
/-- v is the least price -/
theorem bestF_spec (c : Ca) : ∀ (rs : List Ru) (o : Option Int), (bestF rs c o = none → o = none ∧ ∀ r ∈ rs, c ∉ casesOf r) ∧ ∀ v, bestF rs c o = some v → (o = some v ∨ ∃ r ∈ rs, c ∈ casesOf r ∧ r.p = v) ∧ (∀ w, o = some w → v ≤ w) ∧ ∀ r ∈ rs, c ∈ casesOf r → v ≤ r.p
  | [], o => ⟨fun h => ⟨h, fun r hr => by cases hr⟩, fun v h => ⟨.inl h, fun w hw => by
      have : o = some v := h
      rw [this] at hw
      cases hw
      exact Int.le_refl _, fun r hr => by cases hr⟩⟩
  | r :: rs, o => by
    have ih := bestF_spec c rs (if c ∈ casesOf r then some (minP r.p o) else o)
    have e : bestF (r :: rs) c o = bestF rs c (if c ∈ casesOf r then some (minP r.p o) else o) := rfl
    rw [e]
    by_cases hc : c ∈ casesOf r
    · rw [if_pos hc] at ih ⊢
      refine ⟨fun h => ?_, fun v h => ?_⟩
      · have := (ih.1 h).1
        cases this
      · obtain ⟨a, b, d⟩ := ih.2 v h
        have b' := b _ rfl
        have m1 : minP r.p o ≤ r.p := by unfold minP; split <;> omega
        have m2 : ∀ w, o = some w → minP r.p o ≤ w := fun w hw => by
          subst hw
          unfold minP
          simp only [Option.getD_some]
          split <;> omega
        refine ⟨?_, fun w hw => Int.le_trans b' (m2 w hw), fun x hx hcx => ?_⟩
        · rcases a with a | ⟨x, hx, h1, h2⟩
          · have a' := Option.some.inj a
            unfold minP at a'
            cases o with
            | none => simp at a'; exact .inr ⟨r, List.mem_cons_self, hc, a'⟩
            | some w =>
              simp only [Option.getD_some] at a'
              split at a'
              · exact .inl (by rw [a'])
              · exact .inr ⟨r, List.mem_cons_self, hc, a'⟩
          · exact .inr ⟨x, List.mem_cons_of_mem _ hx, h1, h2⟩
        · rcases List.mem_cons.mp hx with z | z
          · subst z; exact Int.le_trans b' m1
          · exact d x z hcx
    · rw [if_neg hc] at ih ⊢
      refine ⟨fun h => ?_, fun v h => ?_⟩
      · obtain ⟨a, b⟩ := ih.1 h
        exact ⟨a, fun x hx => (List.mem_cons.mp hx).elim (fun z => z ▸ hc) (b x)⟩
      · obtain ⟨a, b, d⟩ := ih.2 v h
        refine ⟨a.imp id fun ⟨x, hx, h1⟩ => ⟨x, List.mem_cons_of_mem _ hx, h1⟩, b, fun x hx hcx => ?_⟩
        rcases List.mem_cons.mp hx with z | z
        · subst z; exact absurd hcx hc
        · exact d x z hcx
theorem best_none {rs : List Ru} {c : Ca} (h : best rs c = none) : ∀ r ∈ rs, c ∉ casesOf r := ((bestF_spec c rs none).1 h).2
theorem best_some {rs : List Ru} {c : Ca} {v : Int} (h : best rs c = some v) : (∃ r ∈ rs, c ∈ casesOf r ∧ r.p = v) ∧ ∀ r ∈ rs, c ∈ casesOf r → v ≤ r.p := by
  obtain ⟨a, _, d⟩ := (bestF_spec c rs none).2 v h
  exact ⟨a.resolve_left (by simp), d⟩
/-- what is told of two tables -/
def sameT (a b : Tb) : Bool := (a.length == b.length) && a.all fun q => lookK b q.1 == some q.2
theorem sameT_iff {a b : Tb} (na : (a.map (·.1)).Nodup) (nb : (b.map (·.1)).Nodup) : sameT a b = true ↔ ∀ c, lookK a c = lookK b c := by
  unfold sameT
  rw [Bool.and_eq_true, List.all_eq_true, beq_iff_eq]
  constructor
  · rintro ⟨hl, ha⟩ c
    have sub : ∀ x ∈ a.map (·.1), x ∈ b.map (·.1) := fun x hx => by
      obtain ⟨q, hq, rfl⟩ := List.mem_map.mp hx
      have := ha q hq
      rw [beq_iff_eq] at this
      exact List.mem_map.mpr ⟨_, lookK_in this, rfl⟩
    cases h1 : lookK a c with
    | some v =>
      have := ha _ (lookK_in h1)
      rw [beq_iff_eq] at this
      exact this.symm
    | none =>
      cases h2 : lookK b c with
      | none => rfl
      | some v =>
        exfalso
        have hb : c ∈ b.map (·.1) := List.mem_map.mpr ⟨_, lookK_in h2, rfl⟩
        have hna : c ∉ a.map (·.1) := fun z => by
          obtain ⟨q, hq, e⟩ := List.mem_map.mp z
          have := look_mem na (show (q.1, q.2) ∈ a from hq)
          rw [e, h1] at this
          cases this
        have s2 : ∀ x ∈ a.map (·.1), x ∈ (b.map (·.1)).erase c := fun x hx => (nb.mem_erase_iff).mpr ⟨fun z => hna (z ▸ hx), sub x hx⟩
        have l2 : (a.map (·.1)).length ≤ ((b.map (·.1)).erase c).length := nd_len na s2
        rw [List.length_erase_of_mem hb, List.length_map, List.length_map] at l2
        have : 0 < b.length := by
          have := List.length_pos_of_mem hb
          rwa [List.length_map] at this
        omega
  · intro h
    have f : ∀ {x y : Tb}, (x.map (·.1)).Nodup → (∀ c, lookK x c = lookK y c) → x.length ≤ y.length := fun {x y} nx hh => by
      have s : ∀ k ∈ x.map (·.1), k ∈ y.map (·.1) := fun k hk => by
        obtain ⟨q, hq, rfl⟩ := List.mem_map.mp hk
        have := look_mem nx (show (q.1, q.2) ∈ x from hq)
        rw [hh] at this
        exact List.mem_map.mpr ⟨_, lookK_in this, rfl⟩
      have := nd_len nx s
      rwa [List.length_map, List.length_map] at this
    refine ⟨Nat.le_antisymm (f na h) (f nb fun c => (h c).symm), fun q hq => ?_⟩
    rw [beq_iff_eq, ← h]
    exact look_mem na hq
end FDL

namespace FDL
open PySem L2 FD
/-! ### same -/
def rowT (tb : Tb) : List (List Key × D) := tb.map fun q => (caK q.1, .int q.2)
theorem dictT_tb (tb : Tb) : dictT (tb.map fun q => (caD q.1, PyData.int q.2)) = some (rowT tb) := by
  have := dictT_of (rowT tb)
  unfold rowT at this ⊢
  rw [List.map_map] at this
  exact this
theorem look_row {c : Ca} : ∀ tb : Tb, lookK (rowT tb) (caK c) = (lookK tb c).map PyData.int
  | [] => rfl
  | q :: tb => by
    show lookK ((caK q.1, PyData.int q.2) :: rowT tb) (caK c) = _
    by_cases h : q.1 = c
    · rw [lookK_pos (p := (caK q.1, PyData.int q.2)) (by rw [h]), lookK_pos h]; rfl
    · rw [lookK_neg (p := (caK q.1, PyData.int q.2)) (fun z => h (caK_inj z)), lookK_neg h, look_row tb]
theorem ok_row (tb : Tb) : ((rowT tb).all fun q => okV q.2) = true := by
  rw [List.all_eq_true]
  intro q hq
  obtain ⟨x, _, rfl⟩ := List.mem_map.mp hq
  simp [FD.ret, FD.lif, FD.bnd, FD.var, FD.bin, FD.un, FD.tst, FD.andT, FD.orT, FD.notT, FD.andV, FD.orV, FD.notV, FD.ifE, FD.nilA, FD.consA, FD.tupE, FD.lstE, FD.seqS, FD.exprS, FD.retS, FD.retM, FD.ifS, FD.stoM, FD.setS, FD.setM, FD.gN, FD.gsNil, FD.gsCons, FD.gT, FD.goS, FD.asgS, FD.parS, FD.augS, FD.itE, FD.itA, FD.cbE, FD.slE, FD.intE, FD.arN, FD.arD, FD.arB, FD.callD, FD.callM, FD.slotsOf, FD.argM, FD.putB, FD.isIm, FD.endF, FD.backs, FD.args0, FD.defF, FD.chn, FD.lstM, FD.dtM, FD.dkM, FD.imM, FD.frzE, FD.has, FD.chk, FD.pk, FD.pkLen, FD.peekD, FD.pkL, FD.pkR, okV, flatD, PyData.canLay0]
theorem eqT_row (a b : Tb) : eqT (rowT a) (rowT b) = sameT a b := by
  unfold eqT sameT rowT
  rw [List.length_map, List.length_map, List.all_map]
  congr 1
  congr 1
  funext q
  show (match lookK (rowT b) (caK q.1) with | some y => PyData.eqv (.int q.2) y | none => false) = (lookK b q.1 == some q.2)
  rw [look_row]
  cases lookK b q.1 with
  | none => rfl
  | some v =>
    simp only [Option.map_some, PyData.eqv]
    rw [Bool.eq_iff_iff, beq_iff_eq, beq_iff_eq]
    exact ⟨fun h => by rw [h], fun h => (Option.some.inj h).symm⟩
theorem eqA_tb (a b : Tb) : eqA (tbD a) (tbD b) = some (.bool (sameT a b)) := by
  show eqDT (tbD a) (tbD b) = _
  unfold eqDT tbD
  simp only [dictT_tb, Option.bind_some, ok_row, Bool.and_self, if_true, eqT_row]
theorem two_tables_at {rs rs' : List Ru} (h : okBo rs) (h' : okBo rs') : ftwo_tables [.im (boD rs), .im (boD rs')] = .ok (.im (.tuple [tbD (table rs), tbD (table rs')])) [.im (boD rs), .im (boD rs')] := by
  have n1 := need_book_at h
  have n2 := need_book_at h'
  have p1 := price_table_at h.2
  have p2 := price_table_at h'.2
  simp [FD.ret, FD.lif, FD.bnd, FD.var, FD.bin, FD.un, FD.tst, FD.andT, FD.orT, FD.notT, FD.andV, FD.orV, FD.notV, FD.ifE, FD.nilA, FD.consA, FD.tupE, FD.lstE, FD.seqS, FD.exprS, FD.retS, FD.retM, FD.ifS, FD.stoM, FD.setS, FD.setM, FD.gN, FD.gsNil, FD.gsCons, FD.gT, FD.goS, FD.asgS, FD.parS, FD.augS, FD.itE, FD.itA, FD.cbE, FD.slE, FD.intE, FD.arN, FD.arD, FD.arB, FD.callD, FD.callM, FD.slotsOf, FD.argM, FD.putB, FD.isIm, FD.endF, FD.backs, FD.args0, FD.defF, FD.chn, FD.lstM, FD.dtM, FD.dkM, FD.imM, FD.frzE, FD.has, FD.chk, FD.pk, FD.pkLen, FD.peekD, FD.pkL, FD.pkR, ftwo_tables, gtwo_tables, n1, n2, p1, p2]
theorem same_at {rs rs' : List Ru} (h : okBo rs) (h' : okBo rs') : fsame [.im (boD rs), .im (boD rs')] = .ok (.im (.bool (sameT (table rs) (table rs')))) [.im (boD rs), .im (boD rs')] := by
  have t1 := two_tables_at h h'
  have e1 := eqA_tb (table rs) (table rs')
  simp [FD.ret, FD.lif, FD.bnd, FD.var, FD.bin, FD.un, FD.tst, FD.andT, FD.orT, FD.notT, FD.andV, FD.orV, FD.notV, FD.ifE, FD.nilA, FD.consA, FD.tupE, FD.lstE, FD.seqS, FD.exprS, FD.retS, FD.retM, FD.ifS, FD.stoM, FD.setS, FD.setM, FD.gN, FD.gsNil, FD.gsCons, FD.gT, FD.goS, FD.asgS, FD.parS, FD.augS, FD.itE, FD.itA, FD.cbE, FD.slE, FD.intE, FD.arN, FD.arD, FD.arB, FD.callD, FD.callM, FD.slotsOf, FD.argM, FD.putB, FD.isIm, FD.endF, FD.backs, FD.args0, FD.defF, FD.chn, FD.lstM, FD.dtM, FD.dkM, FD.imM, FD.frzE, FD.has, FD.chk, FD.pk, FD.pkLen, FD.peekD, FD.pkL, FD.pkR, fsame, gsame, t1, e1]
/-! ### cuts -/
theorem cut_hi {α : Type} (xs : List α) (n : Nat) : cutD xs none (some (n : Int)) = xs.take n := by
  unfold cutD
  rw [HT.sIx_nat]
  show (xs.drop 0).take (min n xs.length - 0) = _
  rw [List.drop_zero, Nat.sub_zero, List.take_eq_take_iff]
  omega
theorem cut_lo {α : Type} (xs : List α) (n : Nat) : cutD xs (some (n : Int)) none = xs.drop n := by
  unfold cutD
  rw [HT.sIx_nat]
  show (xs.drop (min n xs.length)).take (xs.length - min n xs.length) = _
  rw [List.take_of_length_le (by rw [List.length_drop]; exact Nat.le_refl _)]
  by_cases h : n ≤ xs.length
  · rw [Nat.min_eq_left h]
  · rw [Nat.min_eq_right (by omega), List.drop_length, List.drop_eq_nil_of_le (by omega)]
def without {α : Type} (rs : List α) (n : Nat) : List α := rs.take n ++ rs.drop (n + 1)
theorem without_len {α : Type} {rs : List α} {n : Nat} (h : n < rs.length) : (without rs n).length + 1 = rs.length := by
  unfold without
  rw [List.length_append, List.length_take, List.length_drop]
  omega
theorem without_sub {α : Type} {rs : List α} {n : Nat} {x : α} (h : x ∈ without rs n) : x ∈ rs := by
  rcases List.mem_append.mp h with h | h
  · exact List.mem_of_mem_take h
  · exact List.mem_of_mem_drop h
theorem okBo_without {rs : List Ru} {n : Nat} (h : okBo rs) : okBo (without rs n) := by
  refine ⟨fun r hr => h.1 r (without_sub hr), Nat.le_trans ?_ h.2⟩
  unfold without
  rw [List.length_append, List.length_take, List.length_drop]
  omega
theorem sl_hi {ds : List D} {n : Nat} : slD (.tuple ds) none (some (n : Int)) = some (.tuple (ds.take n)) := by
  simp only [slD, cut_hi]
theorem sl_lo {ds : List D} {n : Nat} : slD (.tuple ds) (some (n : Int)) none = some (.tuple (ds.drop n)) := by
  simp only [slD, cut_lo]
theorem bo_without (rs : List Ru) (n : Nat) : (rs.map ruD).take n ++ (rs.map ruD).drop (n + 1) = (without rs n).map ruD := by
  unfold without
  rw [List.map_append, List.map_take, List.map_drop]
theorem slices_at {rs : List Ru} {n i j : Nat} {e : FD.Env} (hl : rs.length ≤ 1000) (h1 : var i e = .ok (boD rs) e) (h2 : var j e = .ok (.int (n : Nat)) e) :
    FD.bin addD (slE (var i) (FD.ret none) (intE (var j))) (slE (var i) (intE (FD.bin addD (var j) (FD.ret (.int 1)))) (FD.ret none)) e = .ok (boD (without rs n)) e := by
  have a1 : slE (var i) (FD.ret none) (intE (var j)) e = .ok (.tuple ((rs.map ruD).take n)) e := slE_eq h1 ret_at (intE_eq h2) sl_hi
  have a2 : slE (var i) (intE (FD.bin addD (var j) (FD.ret (.int 1)))) (FD.ret none) e = .ok (.tuple ((rs.map ruD).drop (n + 1))) e := slE_eq h1 (intE_eq (bin_eq h2 ret_at (by rfl : addD (.int (n : Nat)) (.int 1) = some (.int ((n + 1 : Nat) : Int))))) ret_at sl_lo
  refine bin_eq a1 a2 ?_
  rw [addD_tup, if_pos (few_le' (by rw [List.length_take, List.length_drop, List.length_map]; omega)), bo_without]
  rfl
/-! ### needless -/
theorem rng_nat (n : Nat) : rngDs 0 (n : Int) = (List.range n).map fun k => PyData.int (k : Nat) := by
  unfold rngDs
  rw [Int.sub_zero, Int.toNat_natCast]
  refine List.map_congr_left fun k _ => ?_
  rw [Int.zero_add]
theorem rng1_nat {n : Nat} (h : n ≤ 1000000) : rng1 [.int (n : Nat)] = some ((List.range n).map fun k => PyData.int (k : Nat)) := by
  show (if small (n : Int) then some (rngDs 0 (n : Int)) else none) = _
  rw [if_pos (by simp [FD.ret, FD.lif, FD.bnd, FD.var, FD.bin, FD.un, FD.tst, FD.andT, FD.orT, FD.notT, FD.andV, FD.orV, FD.notV, FD.ifE, FD.nilA, FD.consA, FD.tupE, FD.lstE, FD.seqS, FD.exprS, FD.retS, FD.retM, FD.ifS, FD.stoM, FD.setS, FD.setM, FD.gN, FD.gsNil, FD.gsCons, FD.gT, FD.goS, FD.asgS, FD.parS, FD.augS, FD.itE, FD.itA, FD.cbE, FD.slE, FD.intE, FD.arN, FD.arD, FD.arB, FD.callD, FD.callM, FD.slotsOf, FD.argM, FD.putB, FD.isIm, FD.endF, FD.backs, FD.args0, FD.defF, FD.chn, FD.lstM, FD.dtM, FD.dkM, FD.imM, FD.frzE, FD.has, FD.chk, FD.pk, FD.pkLen, FD.peekD, FD.pkL, FD.pkR, small]; omega), rng_nat]
theorem itA_eq {g : List D → Option (List D)} {f : EM (List D)} {e e1 : FD.Env} {d ds : List D} (h1 : f e = .ok d e1) (h2 : g d = some ds) : itA g f e = .ok ds e1 := by
  unfold itA
  rw [bnd_eq h1, h2]
  rfl
theorem lstE_eq {fs : EM (List D)} {e e1 : FD.Env} {ds : List D} (h : fs e = .ok ds e1) (hl : ds.length ≤ 1000) : lstE fs e = .ok (.list ds) e1 := by
  unfold lstE
  rw [bnd_eq h, if_pos (few_le' (by omega))]
  rfl
theorem tupE_eq {fs : EM (List D)} {e e1 : FD.Env} {ds : List D} (h : fs e = .ok ds e1) (hl : ds.length ≤ 1000) : tupE fs e = .ok (.tuple ds) e1 := by
  unfold tupE
  rw [bnd_eq h, if_pos (few_le' (by omega))]
  rfl
theorem filt_true {α : Type} (l : List α) : (l.filter fun _ => true) = l := by simp
theorem bools_map (bs : List Bool) : boolsOf (bs.map PyData.bool) = some bs := by
  induction bs with
  | nil => rfl
  | cons b bs ih =>
    show (boolsOf (bs.map PyData.bool)).map (b :: ·) = _
    rw [ih]
    rfl
theorem any_bools (bs : List Bool) : anyD [.list (bs.map PyData.bool)] = some (.bool (bs.any id)) := by
  show (boolsOf (bs.map PyData.bool)).map _ = _
  rw [bools_map]
  rfl
theorem all_bools (bs : List Bool) : allD [.list (bs.map PyData.bool)] = some (.bool (bs.all id)) := by
  show (boolsOf (bs.map PyData.bool)).map _ = _
  rw [bools_map]
  rfl
/-- a function of rules, on what lays them -/
def onRu (f : Ru → Bool) : D → Bool
  | .tuple [.str a, .str l, .str b, .int p] => f ⟨(a.cps.getD 0 0), (l.cps.getD 0 0), (b.cps.getD 0 0), p⟩
  | _ => false
theorem onRu_at {f : Ru → Bool} {r : Ru} : onRu f (ruD r) = f r := rfl
theorem filter_ru {f : Ru → Bool} (rs : List Ru) : (rs.map ruD).filter (onRu f) = (rs.filter f).map ruD := by
  rw [List.filter_map]
  rfl
def onCa (f : Ca → Bool) : D → Bool
  | .tuple [.str a, .str l, .str b] => f ⟨(a.cps.getD 0 0), (l.cps.getD 0 0), (b.cps.getD 0 0)⟩
  | _ => false
theorem onCa_at {f : Ca → Bool} {c : Ca} : onCa f (caD c) = f c := rfl
end FDL

namespace FDL
open PySem L2 FD
def natsD (ns : List Nat) : D := .tuple (ns.map fun n => .int (n : Nat))
/-! ### what can be shown -/
structure Gd (k W : Nat) (d : D) : Prop where
  lay : d.canLay0 = true
  shw : d.showable = true
  int : d.intsShort 13 = true
  dep : d.depth ≤ k
  wgt : d.weight ≤ W
theorem Gd.mono {k k' W W' : Nat} {d : D} (h : Gd k W d) (hk : k ≤ k') (hW : W ≤ W') : Gd k' W' d := ⟨h.lay, h.shw, h.int, Nat.le_trans h.dep hk, Nat.le_trans h.wgt hW⟩
theorem gd_all {k W : Nat} : ∀ {ds : List D}, (∀ d ∈ ds, Gd k W d) → PyData.canLayAll0 ds = true ∧ PyData.showableAll ds = true ∧ PyData.intsShortAll 13 ds = true ∧ PyData.depthAll ds ≤ k ∧ PyData.weightAll ds ≤ ds.length * (W + 1)
  | [], _ => ⟨by simp [FD.ret, FD.lif, FD.bnd, FD.var, FD.bin, FD.un, FD.tst, FD.andT, FD.orT, FD.notT, FD.andV, FD.orV, FD.notV, FD.ifE, FD.nilA, FD.consA, FD.tupE, FD.lstE, FD.seqS, FD.exprS, FD.retS, FD.retM, FD.ifS, FD.stoM, FD.setS, FD.setM, FD.gN, FD.gsNil, FD.gsCons, FD.gT, FD.goS, FD.asgS, FD.parS, FD.augS, FD.itE, FD.itA, FD.cbE, FD.slE, FD.intE, FD.arN, FD.arD, FD.arB, FD.callD, FD.callM, FD.slotsOf, FD.argM, FD.putB, FD.isIm, FD.endF, FD.backs, FD.args0, FD.defF, FD.chn, FD.lstM, FD.dtM, FD.dkM, FD.imM, FD.frzE, FD.has, FD.chk, FD.pk, FD.pkLen, FD.peekD, FD.pkL, FD.pkR, PyData.canLayAll0], by simp [FD.ret, FD.lif, FD.bnd, FD.var, FD.bin, FD.un, FD.tst, FD.andT, FD.orT, FD.notT, FD.andV, FD.orV, FD.notV, FD.ifE, FD.nilA, FD.consA, FD.tupE, FD.lstE, FD.seqS, FD.exprS, FD.retS, FD.retM, FD.ifS, FD.stoM, FD.setS, FD.setM, FD.gN, FD.gsNil, FD.gsCons, FD.gT, FD.goS, FD.asgS, FD.parS, FD.augS, FD.itE, FD.itA, FD.cbE, FD.slE, FD.intE, FD.arN, FD.arD, FD.arB, FD.callD, FD.callM, FD.slotsOf, FD.argM, FD.putB, FD.isIm, FD.endF, FD.backs, FD.args0, FD.defF, FD.chn, FD.lstM, FD.dtM, FD.dkM, FD.imM, FD.frzE, FD.has, FD.chk, FD.pk, FD.pkLen, FD.peekD, FD.pkL, FD.pkR, PyData.showableAll], by simp [FD.ret, FD.lif, FD.bnd, FD.var, FD.bin, FD.un, FD.tst, FD.andT, FD.orT, FD.notT, FD.andV, FD.orV, FD.notV, FD.ifE, FD.nilA, FD.consA, FD.tupE, FD.lstE, FD.seqS, FD.exprS, FD.retS, FD.retM, FD.ifS, FD.stoM, FD.setS, FD.setM, FD.gN, FD.gsNil, FD.gsCons, FD.gT, FD.goS, FD.asgS, FD.parS, FD.augS, FD.itE, FD.itA, FD.cbE, FD.slE, FD.intE, FD.arN, FD.arD, FD.arB, FD.callD, FD.callM, FD.slotsOf, FD.argM, FD.putB, FD.isIm, FD.endF, FD.backs, FD.args0, FD.defF, FD.chn, FD.lstM, FD.dtM, FD.dkM, FD.imM, FD.frzE, FD.has, FD.chk, FD.pk, FD.pkLen, FD.peekD, FD.pkL, FD.pkR, PyData.intsShortAll], by simp [FD.ret, FD.lif, FD.bnd, FD.var, FD.bin, FD.un, FD.tst, FD.andT, FD.orT, FD.notT, FD.andV, FD.orV, FD.notV, FD.ifE, FD.nilA, FD.consA, FD.tupE, FD.lstE, FD.seqS, FD.exprS, FD.retS, FD.retM, FD.ifS, FD.stoM, FD.setS, FD.setM, FD.gN, FD.gsNil, FD.gsCons, FD.gT, FD.goS, FD.asgS, FD.parS, FD.augS, FD.itE, FD.itA, FD.cbE, FD.slE, FD.intE, FD.arN, FD.arD, FD.arB, FD.callD, FD.callM, FD.slotsOf, FD.argM, FD.putB, FD.isIm, FD.endF, FD.backs, FD.args0, FD.defF, FD.chn, FD.lstM, FD.dtM, FD.dkM, FD.imM, FD.frzE, FD.has, FD.chk, FD.pk, FD.pkLen, FD.peekD, FD.pkL, FD.pkR, PyData.depthAll], by simp [FD.ret, FD.lif, FD.bnd, FD.var, FD.bin, FD.un, FD.tst, FD.andT, FD.orT, FD.notT, FD.andV, FD.orV, FD.notV, FD.ifE, FD.nilA, FD.consA, FD.tupE, FD.lstE, FD.seqS, FD.exprS, FD.retS, FD.retM, FD.ifS, FD.stoM, FD.setS, FD.setM, FD.gN, FD.gsNil, FD.gsCons, FD.gT, FD.goS, FD.asgS, FD.parS, FD.augS, FD.itE, FD.itA, FD.cbE, FD.slE, FD.intE, FD.arN, FD.arD, FD.arB, FD.callD, FD.callM, FD.slotsOf, FD.argM, FD.putB, FD.isIm, FD.endF, FD.backs, FD.args0, FD.defF, FD.chn, FD.lstM, FD.dtM, FD.dkM, FD.imM, FD.frzE, FD.has, FD.chk, FD.pk, FD.pkLen, FD.peekD, FD.pkL, FD.pkR, PyData.weightAll]⟩
  | d :: ds, h => by
    obtain ⟨h1, h2, h3, h4, h5⟩ := gd_all (ds := ds) fun x hx => h x (List.mem_cons_of_mem _ hx)
    have g := h d List.mem_cons_self
    refine ⟨by simp [FD.ret, FD.lif, FD.bnd, FD.var, FD.bin, FD.un, FD.tst, FD.andT, FD.orT, FD.notT, FD.andV, FD.orV, FD.notV, FD.ifE, FD.nilA, FD.consA, FD.tupE, FD.lstE, FD.seqS, FD.exprS, FD.retS, FD.retM, FD.ifS, FD.stoM, FD.setS, FD.setM, FD.gN, FD.gsNil, FD.gsCons, FD.gT, FD.goS, FD.asgS, FD.parS, FD.augS, FD.itE, FD.itA, FD.cbE, FD.slE, FD.intE, FD.arN, FD.arD, FD.arB, FD.callD, FD.callM, FD.slotsOf, FD.argM, FD.putB, FD.isIm, FD.endF, FD.backs, FD.args0, FD.defF, FD.chn, FD.lstM, FD.dtM, FD.dkM, FD.imM, FD.frzE, FD.has, FD.chk, FD.pk, FD.pkLen, FD.peekD, FD.pkL, FD.pkR, PyData.canLayAll0, g.lay, h1], by simp [FD.ret, FD.lif, FD.bnd, FD.var, FD.bin, FD.un, FD.tst, FD.andT, FD.orT, FD.notT, FD.andV, FD.orV, FD.notV, FD.ifE, FD.nilA, FD.consA, FD.tupE, FD.lstE, FD.seqS, FD.exprS, FD.retS, FD.retM, FD.ifS, FD.stoM, FD.setS, FD.setM, FD.gN, FD.gsNil, FD.gsCons, FD.gT, FD.goS, FD.asgS, FD.parS, FD.augS, FD.itE, FD.itA, FD.cbE, FD.slE, FD.intE, FD.arN, FD.arD, FD.arB, FD.callD, FD.callM, FD.slotsOf, FD.argM, FD.putB, FD.isIm, FD.endF, FD.backs, FD.args0, FD.defF, FD.chn, FD.lstM, FD.dtM, FD.dkM, FD.imM, FD.frzE, FD.has, FD.chk, FD.pk, FD.pkLen, FD.peekD, FD.pkL, FD.pkR, PyData.showableAll, g.shw, h2], by simp [FD.ret, FD.lif, FD.bnd, FD.var, FD.bin, FD.un, FD.tst, FD.andT, FD.orT, FD.notT, FD.andV, FD.orV, FD.notV, FD.ifE, FD.nilA, FD.consA, FD.tupE, FD.lstE, FD.seqS, FD.exprS, FD.retS, FD.retM, FD.ifS, FD.stoM, FD.setS, FD.setM, FD.gN, FD.gsNil, FD.gsCons, FD.gT, FD.goS, FD.asgS, FD.parS, FD.augS, FD.itE, FD.itA, FD.cbE, FD.slE, FD.intE, FD.arN, FD.arD, FD.arB, FD.callD, FD.callM, FD.slotsOf, FD.argM, FD.putB, FD.isIm, FD.endF, FD.backs, FD.args0, FD.defF, FD.chn, FD.lstM, FD.dtM, FD.dkM, FD.imM, FD.frzE, FD.has, FD.chk, FD.pk, FD.pkLen, FD.peekD, FD.pkL, FD.pkR, PyData.intsShortAll, g.int, h3], ?_, ?_⟩
    · simp only [PyData.depthAll]
      exact Nat.max_le.mpr ⟨g.dep, h4⟩
    · simp only [PyData.weightAll, List.length_cons]
      have := g.wgt
      rw [Nat.add_mul, Nat.one_mul]
      omega
theorem gd_list {k W : Nat} {ds : List D} (h : ∀ d ∈ ds, Gd k W d) : Gd (k + 1) (ds.length * (W + 1)) (.list ds) := by
  obtain ⟨h1, h2, h3, h4, h5⟩ := gd_all h
  exact ⟨by simpa [PyData.canLay0] using h1, by simpa [PyData.showable] using h2, by simpa [PyData.intsShort] using h3, by simp only [PyData.depth]; omega, by simpa [PyData.weight] using h5⟩
theorem gd_tup {k W : Nat} {ds : List D} (h : ∀ d ∈ ds, Gd k W d) : Gd (k + 1) (ds.length * (W + 1)) (.tuple ds) := by
  obtain ⟨h1, h2, h3, h4, h5⟩ := gd_all h
  exact ⟨by simpa [PyData.canLay0] using h1, by simpa [PyData.showable] using h2, by simpa [PyData.intsShort] using h3, by simp only [PyData.depth]; omega, by simpa [PyData.weight] using h5⟩
def intOk (n : Nat) : Bool := (PyData.int (n : Nat)).canLay0 && (PyData.int (n : Nat)).showable && (PyData.int (n : Nat)).intsShort 13 && decide ((PyData.int (n : Nat)).weight ≤ 10)
theorem ints_ok : ((List.range 1000).all intOk) = true := by decide +kernel
theorem gd_nat {n : Nat} (h : n < 1000) : Gd 0 10 (.int (n : Nat)) := by
  have := (List.all_eq_true.mp ints_ok) n (List.mem_range.mpr h)
  simp only [intOk, Bool.and_eq_true, decide_eq_true_eq] at this
  exact ⟨this.1.1.1, this.1.1.2, this.1.2, by simp [FD.ret, FD.lif, FD.bnd, FD.var, FD.bin, FD.un, FD.tst, FD.andT, FD.orT, FD.notT, FD.andV, FD.orV, FD.notV, FD.ifE, FD.nilA, FD.consA, FD.tupE, FD.lstE, FD.seqS, FD.exprS, FD.retS, FD.retM, FD.ifS, FD.stoM, FD.setS, FD.setM, FD.gN, FD.gsNil, FD.gsCons, FD.gT, FD.goS, FD.asgS, FD.parS, FD.augS, FD.itE, FD.itA, FD.cbE, FD.slE, FD.intE, FD.arN, FD.arD, FD.arB, FD.callD, FD.callM, FD.slotsOf, FD.argM, FD.putB, FD.isIm, FD.endF, FD.backs, FD.args0, FD.defF, FD.chn, FD.lstM, FD.dtM, FD.dkM, FD.imM, FD.frzE, FD.has, FD.chk, FD.pk, FD.pkLen, FD.peekD, FD.pkL, FD.pkR, PyData.depth], this.2⟩
theorem gd_sg {c : Nat} (h : c < 128) : Gd 0 10 (.str (sg c)) := by
  refine ⟨?_, by simp [FD.ret, FD.lif, FD.bnd, FD.var, FD.bin, FD.un, FD.tst, FD.andT, FD.orT, FD.notT, FD.andV, FD.orV, FD.notV, FD.ifE, FD.nilA, FD.consA, FD.tupE, FD.lstE, FD.seqS, FD.exprS, FD.retS, FD.retM, FD.ifS, FD.stoM, FD.setS, FD.setM, FD.gN, FD.gsNil, FD.gsCons, FD.gT, FD.goS, FD.asgS, FD.parS, FD.augS, FD.itE, FD.itA, FD.cbE, FD.slE, FD.intE, FD.arN, FD.arD, FD.arB, FD.callD, FD.callM, FD.slotsOf, FD.argM, FD.putB, FD.isIm, FD.endF, FD.backs, FD.args0, FD.defF, FD.chn, FD.lstM, FD.dtM, FD.dkM, FD.imM, FD.frzE, FD.has, FD.chk, FD.pk, FD.pkLen, FD.peekD, FD.pkL, FD.pkR, PyData.showable], by simp [FD.ret, FD.lif, FD.bnd, FD.var, FD.bin, FD.un, FD.tst, FD.andT, FD.orT, FD.notT, FD.andV, FD.orV, FD.notV, FD.ifE, FD.nilA, FD.consA, FD.tupE, FD.lstE, FD.seqS, FD.exprS, FD.retS, FD.retM, FD.ifS, FD.stoM, FD.setS, FD.setM, FD.gN, FD.gsNil, FD.gsCons, FD.gT, FD.goS, FD.asgS, FD.parS, FD.augS, FD.itE, FD.itA, FD.cbE, FD.slE, FD.intE, FD.arN, FD.arD, FD.arB, FD.callD, FD.callM, FD.slotsOf, FD.argM, FD.putB, FD.isIm, FD.endF, FD.backs, FD.args0, FD.defF, FD.chn, FD.lstM, FD.dtM, FD.dkM, FD.imM, FD.frzE, FD.has, FD.chk, FD.pk, FD.pkLen, FD.peekD, FD.pkL, FD.pkR, PyData.intsShort], by simp [FD.ret, FD.lif, FD.bnd, FD.var, FD.bin, FD.un, FD.tst, FD.andT, FD.orT, FD.notT, FD.andV, FD.orV, FD.notV, FD.ifE, FD.nilA, FD.consA, FD.tupE, FD.lstE, FD.seqS, FD.exprS, FD.retS, FD.retM, FD.ifS, FD.stoM, FD.setS, FD.setM, FD.gN, FD.gsNil, FD.gsCons, FD.gT, FD.goS, FD.asgS, FD.parS, FD.augS, FD.itE, FD.itA, FD.cbE, FD.slE, FD.intE, FD.arN, FD.arD, FD.arB, FD.callD, FD.callM, FD.slotsOf, FD.argM, FD.putB, FD.isIm, FD.endF, FD.backs, FD.args0, FD.defF, FD.chn, FD.lstM, FD.dtM, FD.dkM, FD.imM, FD.frzE, FD.has, FD.chk, FD.pk, FD.pkLen, FD.peekD, FD.pkL, FD.pkR, PyData.depth], by simp [FD.ret, FD.lif, FD.bnd, FD.var, FD.bin, FD.un, FD.tst, FD.andT, FD.orT, FD.notT, FD.andV, FD.orV, FD.notV, FD.ifE, FD.nilA, FD.consA, FD.tupE, FD.lstE, FD.seqS, FD.exprS, FD.retS, FD.retM, FD.ifS, FD.stoM, FD.setS, FD.setM, FD.gN, FD.gsNil, FD.gsCons, FD.gT, FD.goS, FD.asgS, FD.parS, FD.augS, FD.itE, FD.itA, FD.cbE, FD.slE, FD.intE, FD.arN, FD.arD, FD.arB, FD.callD, FD.callM, FD.slotsOf, FD.argM, FD.putB, FD.isIm, FD.endF, FD.backs, FD.args0, FD.defF, FD.chn, FD.lstM, FD.dtM, FD.dkM, FD.imM, FD.frzE, FD.has, FD.chk, FD.pk, FD.pkLen, FD.peekD, FD.pkL, FD.pkR, PyData.weight, sg]⟩
  simp [FD.ret, FD.lif, FD.bnd, FD.var, FD.bin, FD.un, FD.tst, FD.andT, FD.orT, FD.notT, FD.andV, FD.orV, FD.notV, FD.ifE, FD.nilA, FD.consA, FD.tupE, FD.lstE, FD.seqS, FD.exprS, FD.retS, FD.retM, FD.ifS, FD.stoM, FD.setS, FD.setM, FD.gN, FD.gsNil, FD.gsCons, FD.gT, FD.goS, FD.asgS, FD.parS, FD.augS, FD.itE, FD.itA, FD.cbE, FD.slE, FD.intE, FD.arN, FD.arD, FD.arB, FD.callD, FD.callM, FD.slotsOf, FD.argM, FD.putB, FD.isIm, FD.endF, FD.backs, FD.args0, FD.defF, FD.chn, FD.lstM, FD.dtM, FD.dkM, FD.imM, FD.frzE, FD.has, FD.chk, FD.pk, FD.pkLen, FD.peekD, FD.pkL, FD.pkR, PyData.canLay0, PyData.strOk, sg]
  omega
theorem rep_of {k W : Nat} {d : D} (h : Gd k W d) (hs : isSq d = true) (hk : k ≤ 40) (hW : W ≤ 2 ^ 20) : reprD [d] = some (.str d.shown) := by
  have : repOk d = true := by
    unfold repOk
    rw [hs, h.lay, h.shw, h.int, decide_eq_true (Nat.le_trans h.dep hk), decide_eq_true (Nat.le_trans h.wgt hW)]
    rfl
  show (if repOk d then some (PyData.str d.shown) else none) = _
  rw [if_pos this]
theorem let_lt {c : Nat} (h : c ∈ codes) : c < 128 := by
  have : ∀ c ∈ codes, c < 128 := by decide
  exact this c h
theorem gd_ru {r : Ru} (h : okR r = true) : Gd 1 44 (ruD r) := by
  simp only [okR, Bool.and_eq_true, decide_eq_true_eq] at h
  obtain ⟨⟨⟨h1, h2⟩, h3⟩, h4, h5⟩ := h
  have g := gd_tup (k := 0) (W := 10) (ds := [.str (sg r.a), .str (sg r.l), .str (sg r.b), .int r.p]) ?_
  · exact g
  intro d hd
  simp only [List.mem_cons, List.not_mem_nil, or_false] at hd
  rcases hd with z | z | z | z
  · rw [z]; exact gd_sg (let_lt (codes_A h1))
  · rw [z]; exact gd_sg (let_lt (codes_let h2))
  · rw [z]; exact gd_sg (let_lt (codes_B h3))
  · rw [z]
    obtain ⟨n, hn⟩ := Int.eq_ofNat_of_zero_le h4
    rw [hn]
    exact gd_nat (by omega)
theorem gd_bo {rs : List Ru} (h : okBo rs) : Gd 2 3600 (boD rs) := by
  have g := gd_tup (k := 1) (W := 44) (ds := rs.map ruD) fun d hd => by
    obtain ⟨r, hr, rfl⟩ := List.mem_map.mp hd
    exact gd_ru (h.1 r hr)
  refine g.mono (Nat.le_refl _) ?_
  rw [List.length_map]
  have := h.2
  omega
theorem gd_nats {ns : List Nat} (h1 : ∀ n ∈ ns, n < 1000) (h2 : ns.length ≤ 80) : Gd 2 3600 (natsD ns) := by
  have g := gd_tup (k := 0) (W := 10) (ds := ns.map fun n => PyData.int (n : Nat)) fun d hd => by
    obtain ⟨n, hn, rfl⟩ := List.mem_map.mp hd
    exact gd_nat (h1 n hn)
  refine g.mono (by decide) ?_
  rw [List.length_map]
  omega
theorem gd_list3 {ds : List D} (h : ∀ d ∈ ds, Gd 2 3600 d) (hl : ds.length ≤ 3) : reprD [.list ds] = some (.str (PyData.list ds).shown) := by
  have g := (gd_list h).mono (k' := 3) (W' := 20000) (Nat.le_refl _) (by
    have : ds.length * (3600 + 1) ≤ 3 * (3600 + 1) := Nat.mul_le_mul_right _ hl
    omega)
  exact rep_of g rfl (by decide) (by decide)
theorem ne_same {x : Str} : neD (.str x) (.str x) = some (.bool false) := by simp
theorem ru_eqv {r s : Ru} : PyData.eqv (ruD r) (ruD s) = true → r = s := by
  intro h
  obtain ⟨a, l, b, p⟩ := r
  obtain ⟨a', l', b', p'⟩ := s
  simp [FD.ret, FD.lif, FD.bnd, FD.var, FD.bin, FD.un, FD.tst, FD.andT, FD.orT, FD.notT, FD.andV, FD.orV, FD.notV, FD.ifE, FD.nilA, FD.consA, FD.tupE, FD.lstE, FD.seqS, FD.exprS, FD.retS, FD.retM, FD.ifS, FD.stoM, FD.setS, FD.setM, FD.gN, FD.gsNil, FD.gsCons, FD.gT, FD.goS, FD.asgS, FD.parS, FD.augS, FD.itE, FD.itA, FD.cbE, FD.slE, FD.intE, FD.arN, FD.arD, FD.arB, FD.callD, FD.callM, FD.slotsOf, FD.argM, FD.putB, FD.isIm, FD.endF, FD.backs, FD.args0, FD.defF, FD.chn, FD.lstM, FD.dtM, FD.dkM, FD.imM, FD.frzE, FD.has, FD.chk, FD.pk, FD.pkLen, FD.peekD, FD.pkL, FD.pkR, ruD, PyData.eqv, PyData.eqvAll] at h
  obtain ⟨h1, h2, h3, h4⟩ := h
  subst h1 h2 h3 h4
  rfl
theorem Gd.shp {k W : Nat} {d : D} (h : Gd k W d) (hk : k ≤ 64) : SeqAt.shaped d = true := by
  unfold SeqAt.shaped
  rw [h.lay, decide_eq_true (Nat.le_trans h.dep hk)]
  rfl
theorem in_rus {v : Ru} {gs : List Ru} (hv : okR v = true) (hg : ∀ g ∈ gs, okR g = true) : inA (ruD v) (.list (gs.map ruD)) = some (.bool (decide (v ∈ gs))) := by
  have s1 := (gd_ru hv).shp (by decide)
  have s2 := (gd_list (k := 1) (W := 44) (ds := gs.map ruD) fun d hd => by
    obtain ⟨g, h1, rfl⟩ := List.mem_map.mp hd
    exact gd_ru (hg g h1)).shp (by decide)
  show (inB (ruD v) (.list (gs.map ruD))).map PyData.bool = _
  have : inOk (ruD v) (gs.map ruD) = true := by
    unfold inOk
    rw [s1, s2]
    simp
  simp only [inB, this, if_true, Option.map_some]
  congr 2
  unfold memD
  rw [Bool.eq_iff_iff, List.any_eq_true, decide_eq_true_eq]
  constructor
  · rintro ⟨z, hz, he⟩
    obtain ⟨g, h1, rfl⟩ := List.mem_map.mp hz
    rw [← ru_eqv he]
    exact h1
  · intro h
    exact ⟨ruD v, List.mem_map.mpr ⟨v, h, rfl⟩, by simp [FD.ret, FD.lif, FD.bnd, FD.var, FD.bin, FD.un, FD.tst, FD.andT, FD.orT, FD.notT, FD.andV, FD.orV, FD.notV, FD.ifE, FD.nilA, FD.consA, FD.tupE, FD.lstE, FD.seqS, FD.exprS, FD.retS, FD.retM, FD.ifS, FD.stoM, FD.setS, FD.setM, FD.gN, FD.gsNil, FD.gsCons, FD.gT, FD.goS, FD.asgS, FD.parS, FD.augS, FD.itE, FD.itA, FD.cbE, FD.slE, FD.intE, FD.arN, FD.arD, FD.arB, FD.callD, FD.callM, FD.slotsOf, FD.argM, FD.putB, FD.isIm, FD.endF, FD.backs, FD.args0, FD.defF, FD.chn, FD.lstM, FD.dtM, FD.dkM, FD.imM, FD.frzE, FD.has, FD.chk, FD.pk, FD.pkLen, FD.peekD, FD.pkL, FD.pkR, ruD, PyData.eqv, PyData.eqvAll]⟩
theorem ix_bo {rs : List Ru} {n : Nat} {r : Ru} (hr : rs[n]? = some r) : ixA (boD rs) (.int (n : Nat)) = some (ruD r) := by
  show atI (rs.map ruD) (n : Int) = _
  have hn : n < rs.length := (List.getElem?_eq_some_iff.mp hr).1
  unfold atI ixN
  rw [if_pos (by omega), if_pos (by rw [List.length_map]; omega)]
  show (rs.map ruD)[(n : Int).toNat]? = _
  rw [Int.toNat_natCast, List.getElem?_map, hr]
  rfl
end FDL

namespace FDL
open PySem L2 FD
theorem mem_letters {x : Nat} : x ∈ letters ↔ isLet x = true := by
  unfold letters isLet
  rw [List.mem_map, Bool.and_eq_true, decide_eq_true_eq, decide_eq_true_eq]
  constructor
  · rintro ⟨k, hk, rfl⟩
    rw [List.mem_range] at hk
    omega
  · intro h
    exact ⟨x - 97, List.mem_range.mpr (by omega), by omega⟩
/-- what a side stands for -/
theorem side_own {s e x : Nat} (hs : isLet s = true ∨ s = e ∨ s = 42) (he : e ≠ 42) (h : x ∈ signsF s e) : x ≠ 42 ∧ (x = e ∨ isLet x = true) := by
  unfold signsF at h
  have nl42 : isLet 42 = false := by decide
  split at h
  · rcases List.mem_cons.mp h with z | z
    · exact ⟨by rw [z]; exact he, .inl z⟩
    · rw [mem_letters] at z
      exact ⟨fun q => (by rw [q, nl42] at z; cases z), .inr z⟩
  · rename_i h42
    rw [List.mem_singleton] at h
    subst h
    rcases hs with z | z | z
    · exact ⟨h42, .inr z⟩
    · exact ⟨h42, .inl z⟩
    · exact absurd z h42
theorem side_iff {s e x : Nat} (hx : x ≠ 42) (hx' : x = e ∨ isLet x = true) : x ∈ signsF s e ↔ (x == s || 42 == s) = true := by
  unfold signsF
  rw [Bool.or_eq_true, beq_iff_eq, beq_iff_eq]
  by_cases h : s = 42
  · rw [if_pos h]
    refine ⟨fun _ => .inr h.symm, fun _ => ?_⟩
    rcases hx' with z | z
    · rw [z]; exact List.mem_cons_self
    · exact List.mem_cons_of_mem _ (mem_letters.mpr z)
  · rw [if_neg h, List.mem_singleton]
    refine ⟨fun z => .inl z, fun z => z.elim id fun q => absurd q.symm h⟩
theorem mem_cases {r : Ru} {c : Ca} : c ∈ casesOf r ↔ c.a ∈ signsF r.a 60 ∧ c.l = r.l ∧ c.b ∈ signsF r.b 62 := by
  unfold casesOf
  rw [List.mem_flatMap]
  constructor
  · rintro ⟨x, hx, h⟩
    obtain ⟨y, hy, rfl⟩ := List.mem_map.mp h
    exact ⟨hx, rfl, hy⟩
  · rintro ⟨h1, h2, h3⟩
    exact ⟨c.a, h1, List.mem_map.mpr ⟨c.b, h3, by obtain ⟨a, l, b⟩ := c; simp at h2; subst h2; rfl⟩⟩
theorem ok_sides {r : Ru} (h : okR r = true) : (isLet r.a = true ∨ r.a = 60 ∨ r.a = 42) ∧ (isLet r.b = true ∨ r.b = 62 ∨ r.b = 42) := by
  simp only [okR, okA, okB, Bool.and_eq_true, Bool.or_eq_true, beq_iff_eq] at h
  obtain ⟨⟨⟨h1, _⟩, h3⟩, _⟩ := h
  exact ⟨h1.imp id fun z => z.imp Eq.symm Eq.symm, h3.imp id fun z => z.imp Eq.symm Eq.symm⟩
theorem fits_iff {r o : Ru} {c : Ca} (hr : okR r = true) (hc : c ∈ casesOf r) : fits o c = true ↔ c ∈ casesOf o := by
  obtain ⟨h1, h2, h3⟩ := mem_cases.mp hc
  obtain ⟨s1, s2⟩ := ok_sides hr
  obtain ⟨a1, a2⟩ := side_own s1 (by decide) h1
  obtain ⟨b1, b2⟩ := side_own s2 (by decide) h3
  rw [mem_cases, side_iff a1 a2, side_iff b1 b2]
  unfold fits
  rw [Bool.and_eq_true, Bool.and_eq_true, beq_iff_eq]
  exact ⟨fun ⟨x, y, z⟩ => ⟨y, x.symm, z⟩, fun ⟨x, y, z⟩ => ⟨y.symm, x, z⟩⟩
/-- the others cover it at no greater price -/
theorem best_eq_some {rs : List Ru} {c : Ca} {v : Int} (h1 : ∃ r ∈ rs, c ∈ casesOf r ∧ r.p = v) (h2 : ∀ r ∈ rs, c ∈ casesOf r → v ≤ r.p) : best rs c = some v := by
  cases h : best rs c with
  | none =>
    obtain ⟨r, hr, hc, _⟩ := h1
    exact absurd hc (best_none h r hr)
  | some w =>
    obtain ⟨⟨r, hr, hc, hp⟩, hm⟩ := best_some h
    obtain ⟨r', hr', hc', hp'⟩ := h1
    have a := h2 r hr hc
    have b := hm r' hr' hc'
    congr 1
    omega
theorem best_eq_none {rs : List Ru} {c : Ca} (h : ∀ r ∈ rs, c ∉ casesOf r) : best rs c = none := by
  cases q : best rs c with
  | none => rfl
  | some w =>
    obtain ⟨⟨r, hr, hc, _⟩, _⟩ := best_some q
    exact absurd hc (h r hr)
theorem same_iff (rs rs' : List Ru) : sameT (table rs) (table rs') = true ↔ ∀ c, best rs c = best rs' c := by
  refine (sameT_iff (show ((table rs).map (·.1)).Nodup from table_nodup rs [] List.nodup_nil) (show ((table rs').map (·.1)).Nodup from table_nodup rs' [] List.nodup_nil)).trans ?_
  exact forall_congr' fun c => by rw [look_table, look_table]
end FDL

namespace FDL
open PySem L2 FD
/-! ### draws -/
theorem modD_int {i j : Int} (h : 0 < j) : modD (.int i) (.int j) = some (.int (i % j)) := by
  show (if decide (0 < j) then some (PyData.int (i % j)) else none) = _
  rw [if_pos (decide_eq_true h)]
theorem fdvD_int {i j : Int} (h : 0 < j) (h2 : j < 1073741824) : fdvD (.int i) (.int j) = some (.int (i / j)) := by
  show (if (decide (0 < j) && decide (j < 1073741824)) then some (PyData.int (i / j)) else none) = _
  rw [if_pos (by simp [FD.ret, FD.lif, FD.bnd, FD.var, FD.bin, FD.un, FD.tst, FD.andT, FD.orT, FD.notT, FD.andV, FD.orV, FD.notV, FD.ifE, FD.nilA, FD.consA, FD.tupE, FD.lstE, FD.seqS, FD.exprS, FD.retS, FD.retM, FD.ifS, FD.stoM, FD.setS, FD.setM, FD.gN, FD.gsNil, FD.gsCons, FD.gT, FD.goS, FD.asgS, FD.parS, FD.augS, FD.itE, FD.itA, FD.cbE, FD.slE, FD.intE, FD.arN, FD.arD, FD.arB, FD.callD, FD.callM, FD.slotsOf, FD.argM, FD.putB, FD.isIm, FD.endF, FD.backs, FD.args0, FD.defF, FD.chn, FD.lstM, FD.dtM, FD.dkM, FD.imM, FD.frzE, FD.has, FD.chk, FD.pk, FD.pkLen, FD.peekD, FD.pkL, FD.pkR, h, h2])]
theorem mulD_r {i j : Int} (h1 : -(2 ^ 64) < j) (h2 : j < 2 ^ 64) : mulD (.int i) (.int j) = some (.int (i * j)) := by
  show (if ((decide (-(2 ^ 64) < i) && decide (i < 2 ^ 64)) || (decide (-(2 ^ 64) < j) && decide (j < 2 ^ 64))) then some (PyData.int (i * j)) else none) = _
  rw [if_pos (by rw [decide_eq_true h1, decide_eq_true h2]; simp)]
theorem mixed_at {a k : Int} (h0 : 0 ≤ k) (h1 : k ≤ 1000000) : ∃ r : Int, 0 ≤ r ∧ r < 2147483629 ∧ f_law_mixed [.im (.int a), .im (.int k)] = .ok (.im (.int r)) [.im (.int a), .im (.int k)] := by
  let n1 : Int := (a % 2147483647 + 7919 * k * k + 31 * k) * 48271 % 2147483647
  refine ⟨n1 * (69621 + 2 * k) % 2147483629, Int.emod_nonneg _ (by decide), Int.emod_lt_of_pos _ (by decide), ?_⟩
  let e : FD.Env := [some (.im (.int a)), some (.im (.int k))]
  have m1 : FD.bin mulD (FD.bin mulD (FD.ret (.int 7919)) (var 1)) (var 1) e = .ok (.int (7919 * k * k)) e := bin_eq (bin_eq ret_at (by rfl) (mulD_r (by omega) (by omega))) (by rfl) (mulD_r (by omega) (by omega))
  have m2 : FD.bin mulD (FD.ret (.int 31)) (var 1) e = .ok (.int (31 * k)) e := bin_eq ret_at (by rfl) (mulD_r (by omega) (by omega))
  have m3 : FD.bin modD (var 0) (FD.ret (.int 2147483647)) e = .ok (.int (a % 2147483647)) e := bin_eq (by rfl) ret_at (modD_int (by decide))
  have s1 : setS 0 (FD.bin modD (FD.bin mulD (FD.bin addD (FD.bin addD (FD.bin modD (var 0) (FD.ret (.int 2147483647))) (FD.bin mulD (FD.bin mulD (FD.ret (.int 7919)) (var 1)) (var 1))) (FD.bin mulD (FD.ret (.int 31)) (var 1))) (FD.ret (.int 48271))) (FD.ret (.int 2147483647))) e = .ok .nxt [some (.im (.int n1)), some (.im (.int k))] :=
    setS_eq (e1 := e) (bin_eq (bin_eq (bin_eq (bin_eq m3 m1 addD_int) m2 addD_int) ret_at (mulD_r (by decide) (by decide))) ret_at (modD_int (by decide))) (by simp [FD.ret, FD.lif, FD.bnd, FD.var, FD.bin, FD.un, FD.tst, FD.andT, FD.orT, FD.notT, FD.andV, FD.orV, FD.notV, FD.ifE, FD.nilA, FD.consA, FD.tupE, FD.lstE, FD.seqS, FD.exprS, FD.retS, FD.retM, FD.ifS, FD.stoM, FD.setS, FD.setM, FD.gN, FD.gsNil, FD.gsCons, FD.gT, FD.goS, FD.asgS, FD.parS, FD.augS, FD.itE, FD.itA, FD.cbE, FD.slE, FD.intE, FD.arN, FD.arD, FD.arB, FD.callD, FD.callM, FD.slotsOf, FD.argM, FD.putB, FD.isIm, FD.endF, FD.backs, FD.args0, FD.defF, FD.chn, FD.lstM, FD.dtM, FD.dkM, FD.imM, FD.frzE, FD.has, FD.chk, FD.pk, FD.pkLen, FD.peekD, FD.pkL, FD.pkR, e])
  have b1 : g_law_mixed e = .ok (.ret (.im (.int (n1 * (69621 + 2 * k) % 2147483629)))) [some (.im (.int n1)), some (.im (.int k))] := by
    unfold g_law_mixed
    rw [seqS_nxt s1]
    exact ret_eq (bin_eq (bin_eq (by rfl) (bin_eq ret_at (bin_eq ret_at (by rfl) (mulD_r (by omega) (by omega))) addD_int) (mulD_r (by omega) (by omega))) ret_at (modD_int (by decide)))
  exact run2 (n := 0) b1
def stM (a b c : Int) : M := .ls [.im (.int a), .im (.int b), .im (.int c)]
theorem store3_1 {a b c v : Int} {x y : Option M} : storeM 0 (.int 1) (.int v) [some (stM a b c), x, y] = .ok .nxt [some (stM a v c), x, y] := rfl
theorem store3_0 {a b c v : Int} {x y : Option M} : storeM 0 (.int 0) (.int v) [some (stM a b c), x, y] = .ok .nxt [some (stM v b c), x, y] := rfl
theorem pk_0 {a b c : Int} {x y : Option M} : pkIxA 0 (FD.ret (.int 0)) [some (stM a b c), x, y] = .ok (.int a) [some (stM a b c), x, y] := rfl
theorem pk_1 {a b c : Int} {x y : Option M} : pkIxA 0 (FD.ret (.int 1)) [some (stM a b c), x, y] = .ok (.int b) [some (stM a b c), x, y] := rfl
theorem pk_2 {a b c : Int} {x y : Option M} : pkIxA 0 (FD.ret (.int 2)) [some (stM a b c), x, y] = .ok (.int c) [some (stM a b c), x, y] := rfl
theorem storeS_eq {i : Nat} {fk fv : EM D} {e e1 e2 e3 : FD.Env} {k v : D} (h1 : fv e = .ok v e1) (hc : has i e1 = true) (h2 : fk e1 = .ok k e2) (h3 : storeM i k v e2 = .ok .nxt e3) : storeS i fk fv e = .ok .nxt e3 := by
  unfold storeS
  rw [bnd_eq h1]
  unfold chk
  rw [if_pos hc, bnd_eq h2]
  exact h3
/-- behind a draw: the stream has been asked once more -/
theorem take_at {a b c m : Int} (hm : 0 < m) (hm2 : m < 1073741824) (hb : 0 ≤ b) (hb2 : b < 900000) : ∃ r a' : Int, 0 ≤ r ∧ r < m ∧ f_law_take [stM a b c, .im (.int m)] = .ok (.im (.int r)) [stM a' (b + 1) c, .im (.int m)] := by
  let e1 : FD.Env := [some (stM a (b + 1) c), some (.im (.int m)), none]
  have s1 : storeS 0 (FD.ret (.int 1)) (FD.bin addD (pkIxA 0 (FD.ret (.int 1))) (FD.ret (.int 1))) [some (stM a b c), some (.im (.int m)), none] = .ok .nxt e1 :=
    storeS_eq (e1 := [some (stM a b c), some (.im (.int m)), none]) (e2 := [some (stM a b c), some (.im (.int m)), none]) (bin_eq pk_1 ret_at addD_int) (by rfl) ret_at store3_1
  have t1 : tst (FD.bin eqA (pkIxA 0 (FD.ret (.int 0))) (FD.ret (.int 0))) e1 = .ok (a == 0) e1 := tst_eq (bin_eq pk_0 ret_at eqA_int)
  by_cases ha : a = 0
  · subst ha
    obtain ⟨x, hx0, hx1, hx⟩ := mixed_at (a := c) (k := b + 1) (by omega) (by omega)
    obtain ⟨y, hy0, hy1, hy⟩ := mixed_at (a := x) (k := 7) (by decide) (by decide)
    refine ⟨y % m, 0, Int.emod_nonneg _ (by omega), Int.emod_lt_of_pos _ hm, ?_⟩
    have b1 : g_law_take [some (stM 0 b c), some (.im (.int m)), none] = .ok (.ret (.im (.int (y % m)))) e1 := by
      unfold g_law_take
      rw [seqS_nxt s1]
      rw [seqS_ret (m := .im (.int (y % m))) (e' := e1) (by
        rw [ifS_eq t1]
        exact ret_eq (bin_eq (call2 (call2 pk_2 pk_1 hx (by rfl)) ret_at hy (by rfl)) (by rfl) (modD_int hm)))]
    have u : f_law_take [stM 0 b c, .im (.int m)] = endF [0] [stM 0 b c, .im (.int m)] (g_law_take [some (stM 0 b c), some (.im (.int m)), none]) := rfl
    rw [u, b1]
    rfl
  · have t2 : (a == 0) = false := by simpa using ha
    rw [t2] at t1
    refine ⟨a % m, a / m, Int.emod_nonneg _ (by omega), Int.emod_lt_of_pos _ hm, ?_⟩
    have b1 : g_law_take [some (stM a b c), some (.im (.int m)), none] = .ok (.ret (.im (.int (a % m)))) [some (stM (a / m) (b + 1) c), some (.im (.int m)), some (.im (.int (a % m)))] := by
      unfold g_law_take
      rw [seqS_nxt s1]
      rw [seqS_nxt (e' := e1) (by rw [ifS_eq t1]; rfl)]
      rw [seqS_nxt (e' := [some (stM a (b + 1) c), some (.im (.int m)), some (.im (.int (a % m)))]) (setS_eq (e1 := e1) (bin_eq pk_0 (by rfl) (modD_int hm)) (by simp [FD.ret, FD.lif, FD.bnd, FD.var, FD.bin, FD.un, FD.tst, FD.andT, FD.orT, FD.notT, FD.andV, FD.orV, FD.notV, FD.ifE, FD.nilA, FD.consA, FD.tupE, FD.lstE, FD.seqS, FD.exprS, FD.retS, FD.retM, FD.ifS, FD.stoM, FD.setS, FD.setM, FD.gN, FD.gsNil, FD.gsCons, FD.gT, FD.goS, FD.asgS, FD.parS, FD.augS, FD.itE, FD.itA, FD.cbE, FD.slE, FD.intE, FD.arN, FD.arD, FD.arB, FD.callD, FD.callM, FD.slotsOf, FD.argM, FD.putB, FD.isIm, FD.endF, FD.backs, FD.args0, FD.defF, FD.chn, FD.lstM, FD.dtM, FD.dkM, FD.imM, FD.frzE, FD.has, FD.chk, FD.pk, FD.pkLen, FD.peekD, FD.pkL, FD.pkR, e1]))]
      rw [seqS_nxt (storeS_eq (e1 := [some (stM a (b + 1) c), some (.im (.int m)), some (.im (.int (a % m)))]) (e2 := [some (stM a (b + 1) c), some (.im (.int m)), some (.im (.int (a % m)))]) (bin_eq pk_0 (by rfl) (fdvD_int hm hm2)) (by rfl) ret_at store3_0)]
      exact ret_eq (by rfl)
    have u : f_law_take [stM a b c, .im (.int m)] = endF [0] [stM a b c, .im (.int m)] (g_law_take [some (stM a b c), some (.im (.int m)), none]) := rfl
    rw [u, b1]
    rfl
end FDL

namespace FDL
open PySem L2 FD
theorem callB1 {Fs : List M → FOut} {f : EM D} {e e1 : FD.Env} {s : Nat} {d r : D} {m m0 m1 : M} (h0 : e[s]? = some (some m)) (h1 : f e = .ok d e1) (hs : e1[s]? = some (some m0)) (h2 : Fs [m0, .im d] = .ok (.im r) [m1, .im d]) : callD Fs (arB s (arD f arN)) e = .ok r (e1.set s (some m1)) := by
  have q : callM Fs (arB s (arD f arN)) e = .ok (.im r) (e1.set s (some m1)) := by
    simp [FD.ret, FD.lif, FD.bnd, FD.var, FD.bin, FD.un, FD.tst, FD.andT, FD.orT, FD.notT, FD.andV, FD.orV, FD.notV, FD.ifE, FD.nilA, FD.consA, FD.tupE, FD.lstE, FD.seqS, FD.exprS, FD.retS, FD.retM, FD.ifS, FD.stoM, FD.setS, FD.setM, FD.gN, FD.gsNil, FD.gsCons, FD.gT, FD.goS, FD.asgS, FD.parS, FD.augS, FD.itE, FD.itA, FD.cbE, FD.slE, FD.intE, FD.arN, FD.arD, FD.arB, FD.callD, FD.callM, FD.slotsOf, FD.argM, FD.putB, FD.isIm, FD.endF, FD.backs, FD.args0, FD.defF, FD.chn, FD.lstM, FD.dtM, FD.dkM, FD.imM, FD.frzE, FD.has, FD.chk, FD.pk, FD.pkLen, FD.peekD, FD.pkL, FD.pkR, callM, arB, arD, arN, bnd, h0, h1, hs, h2]
  unfold callD
  rw [bnd_eq q]
  rfl
theorem callB2 {Fs : List M → FOut} {f g : EM D} {e e1 e2 : FD.Env} {s : Nat} {d d' r : D} {m m0 m1 : M} (h0 : e[s]? = some (some m)) (h1 : f e = .ok d e1) (h1' : g e1 = .ok d' e2) (hs : e2[s]? = some (some m0)) (h2 : Fs [m0, .im d, .im d'] = .ok (.im r) [m1, .im d, .im d']) : callD Fs (arB s (arD f (arD g arN))) e = .ok r (e2.set s (some m1)) := by
  have q : callM Fs (arB s (arD f (arD g arN))) e = .ok (.im r) (e2.set s (some m1)) := by
    simp [FD.ret, FD.lif, FD.bnd, FD.var, FD.bin, FD.un, FD.tst, FD.andT, FD.orT, FD.notT, FD.andV, FD.orV, FD.notV, FD.ifE, FD.nilA, FD.consA, FD.tupE, FD.lstE, FD.seqS, FD.exprS, FD.retS, FD.retM, FD.ifS, FD.stoM, FD.setS, FD.setM, FD.gN, FD.gsNil, FD.gsCons, FD.gT, FD.goS, FD.asgS, FD.parS, FD.augS, FD.itE, FD.itA, FD.cbE, FD.slE, FD.intE, FD.arN, FD.arD, FD.arB, FD.callD, FD.callM, FD.slotsOf, FD.argM, FD.putB, FD.isIm, FD.endF, FD.backs, FD.args0, FD.defF, FD.chn, FD.lstM, FD.dtM, FD.dkM, FD.imM, FD.frzE, FD.has, FD.chk, FD.pk, FD.pkLen, FD.peekD, FD.pkL, FD.pkR, callM, arB, arD, arN, bnd, h0, h1, h1', hs, h2]
  unfold callD
  rw [bnd_eq q]
  rfl
def ixChk (j : Nat) : Bool := match ixA (.str "abcdefghijklmnopqrstuvwxyz") (.int (j : Nat)) with
  | some (.str x) => x == sg (97 + j)
  | _ => false
theorem ix_all : ((List.range 26).all ixChk) = true := by decide +kernel
theorem ix_let {j : Nat} (h : j < 26) : ixA (.str "abcdefghijklmnopqrstuvwxyz") (.int (j : Nat)) = some (.str (sg (97 + j))) := by
  have := (List.all_eq_true.mp ix_all) j (List.mem_range.mpr h)
  unfold ixChk at this
  split at this
  · rename_i x hx
    rw [hx]
    rw [beq_iff_eq] at this
    rw [this]
  · cases this
def sgsD (cs : List Nat) : D := .list (cs.map fun c => .str (sg c))
theorem signs_at {a b c : Int} {n : Nat} (hn : n ≤ 100) (hb : 0 ≤ b) (hb2 : b < 800000) : ∃ (a' : Int) (cs : List Nat), cs.length = n ∧ (∀ x ∈ cs, isLet x = true) ∧ f_law_signs [stM a b c, .im (.int (n : Nat))] = .ok (.im (sgsD cs)) [stM a' (b + 2) c, .im (.int (n : Nat))] := by
  obtain ⟨r1, a1, _, _, t1⟩ := take_at (a := a) (b := b) (c := c) (m := 26) (by decide) (by decide) hb (by omega)
  obtain ⟨r2, a2, _, _, t2⟩ := take_at (a := a1) (b := b + 1) (c := c) (m := 6) (by decide) (by decide) (by omega) (by omega)
  let e0 : FD.Env := [some (stM a b c), some (.im (.int (n : Nat))), none, none, none]
  let e3 : FD.Env := [some (stM a2 (b + 2) c), some (.im (.int (n : Nat))), some (.im (.int r1)), some (.im (.int (1 + 2 * r2))), none]
  let cf : Nat → Nat := fun k => 97 + ((r1 + (1 + 2 * r2) * (k : Int)) % 26).toNat
  refine ⟨a2, (List.range n).map cf, by simp, fun x hx => ?_, ?_⟩
  · obtain ⟨k, _, rfl⟩ := List.mem_map.mp hx
    have h1 := Int.emod_nonneg (r1 + (1 + 2 * r2) * (k : Int)) (by decide : (26 : Int) ≠ 0)
    have h2 := Int.emod_lt_of_pos (r1 + (1 + 2 * r2) * (k : Int)) (by decide : (0 : Int) < 26)
    simp only [cf, isLet, Bool.and_eq_true, decide_eq_true_eq]
    omega
  · rw [show b + 1 + 1 = b + 2 by omega] at t2
    have c1 : callD f_law_take (arB 0 (arD (FD.ret (.int 26)) arN)) e0 = .ok (.int r1) [some (stM a1 (b + 1) c), some (.im (.int (n : Nat))), none, none, none] := callB1 (e1 := e0) (by rfl) ret_at (by rfl) t1
    have c2 : callD f_law_take (arB 0 (arD (FD.ret (.int 6)) arN)) [some (stM a1 (b + 1) c), some (.im (.int (n : Nat))), none, none, none] = .ok (.int r2) [some (stM a2 (b + 2) c), some (.im (.int (n : Nat))), none, none, none] := callB1 (e1 := [some (stM a1 (b + 1) c), some (.im (.int (n : Nat))), none, none, none]) (by rfl) ret_at (by rfl) t2
    have cc : compE [4] (itA rng1 (consA (var 1) nilA)) (gN 4) (FD.ret true) (FD.bin ixA (FD.ret (.str "abcdefghijklmnopqrstuvwxyz")) (FD.bin modD (FD.bin addD (var 2) (FD.bin mulD (var 3) (var 4))) (FD.ret (.int 26)))) e3 = .ok (sgsD ((List.range n).map cf)) e3 := by
      rw [comp1 (ds := (List.range n).map fun k => PyData.int (k : Nat)) (b := fun _ => true) (f := fun d => match d with | .int k => .str (sg (cf k.toNat)) | _ => .none) (by simp [FD.ret, FD.lif, FD.bnd, FD.var, FD.bin, FD.un, FD.tst, FD.andT, FD.orT, FD.notT, FD.andV, FD.orV, FD.notV, FD.ifE, FD.nilA, FD.consA, FD.tupE, FD.lstE, FD.seqS, FD.exprS, FD.retS, FD.retM, FD.ifS, FD.stoM, FD.setS, FD.setM, FD.gN, FD.gsNil, FD.gsCons, FD.gT, FD.goS, FD.asgS, FD.parS, FD.augS, FD.itE, FD.itA, FD.cbE, FD.slE, FD.intE, FD.arN, FD.arD, FD.arB, FD.callD, FD.callM, FD.slotsOf, FD.argM, FD.putB, FD.isIm, FD.endF, FD.backs, FD.args0, FD.defF, FD.chn, FD.lstM, FD.dtM, FD.dkM, FD.imM, FD.frzE, FD.has, FD.chk, FD.pk, FD.pkLen, FD.peekD, FD.pkL, FD.pkR, e3]) (by rfl) (itA_eq (consA_eq (by rfl) (by rfl)) (rng1_nat (by omega))) (by rw [List.length_map, List.length_range]; omega) ?_]
      · rw [filt_true]
        unfold sgsD
        rw [List.map_map, List.map_map]
        rfl
      · intro d hd
        obtain ⟨k, hk, rfl⟩ := List.mem_map.mp hd
        rw [List.mem_range] at hk
        refine ⟨rfl, fun _ => ?_⟩
        have h1 := Int.emod_nonneg (r1 + (1 + 2 * r2) * (k : Int)) (by decide : (26 : Int) ≠ 0)
        have h2 := Int.emod_lt_of_pos (r1 + (1 + 2 * r2) * (k : Int)) (by decide : (0 : Int) < 26)
        have hx := ix_let (j := ((r1 + (1 + 2 * r2) * (k : Int)) % 26).toNat) (by omega)
        rw [Int.toNat_of_nonneg h1] at hx
        exact bin_eq ret_at (bin_eq (bin_eq (by rfl) (bin_eq (by rfl) (by rfl) (mulD_r (by omega) (by omega))) addD_int) ret_at (modD_int (by decide))) hx
    have b1 : g_law_signs e0 = .ok (.ret (.im (sgsD ((List.range n).map cf)))) e3 := by
      unfold g_law_signs
      rw [seqS_nxt (e' := e3) (by
        unfold asgS
        rw [bnd_eq (tupE_eq (consA_eq c1 (consA_eq (bin_eq ret_at (bin_eq ret_at c2 (mulD_r (by omega) (by omega))) addD_int) (by rfl))) (by simp))]
        rfl)]
      exact ret_eq cc
    have u : f_law_signs [stM a b c, .im (.int (n : Nat))] = endF [0] [stM a b c, .im (.int (n : Nat))] (g_law_signs e0) := rfl
    rw [u, b1]
    rfl
theorem ix_list {cs : List D} {j : Int} (h0 : 0 ≤ j) (h : j < cs.length) : ∃ d ∈ cs, ixA (.list cs) (.int j) = some d := by
  have hj : j.toNat < cs.length := by omega
  refine ⟨cs[j.toNat], List.getElem_mem hj, ?_⟩
  show atI cs j = _
  unfold atI ixN
  rw [if_pos h0, if_pos h]
  exact List.getElem?_eq_getElem hj
theorem side_at {a b c : Int} {cs : List Nat} {en : Nat} (hl : cs.length ≤ 100) (hb : 0 ≤ b) (hb2 : b < 800000) : ∃ (a' : Int) (x : Nat), (x ∈ cs ∨ x = en ∨ x = 42) ∧ f_law_side [stM a b c, .im (sgsD cs), .im (.str (sg en))] = .ok (.im (.str (sg x))) [stM a' (b + 1) c, .im (sgsD cs), .im (.str (sg en))] := by
  obtain ⟨r1, a1, h0, h1, t1⟩ := take_at (a := a) (b := b) (c := c) (m := (cs.length : Int) + 2) (by omega) (by omega) hb (by omega)
  let e0 : FD.Env := [some (stM a b c), some (.im (sgsD cs)), some (.im (.str (sg en)))]
  let all : List D := (cs.map fun c => PyData.str (sg c)) ++ [.str (sg en), .str (sg 42)]
  obtain ⟨d, hd, hx⟩ := ix_list (cs := all) (j := r1) h0 (by simp [FD.ret, FD.lif, FD.bnd, FD.var, FD.bin, FD.un, FD.tst, FD.andT, FD.orT, FD.notT, FD.andV, FD.orV, FD.notV, FD.ifE, FD.nilA, FD.consA, FD.tupE, FD.lstE, FD.seqS, FD.exprS, FD.retS, FD.retM, FD.ifS, FD.stoM, FD.setS, FD.setM, FD.gN, FD.gsNil, FD.gsCons, FD.gT, FD.goS, FD.asgS, FD.parS, FD.augS, FD.itE, FD.itA, FD.cbE, FD.slE, FD.intE, FD.arN, FD.arD, FD.arB, FD.callD, FD.callM, FD.slotsOf, FD.argM, FD.putB, FD.isIm, FD.endF, FD.backs, FD.args0, FD.defF, FD.chn, FD.lstM, FD.dtM, FD.dkM, FD.imM, FD.frzE, FD.has, FD.chk, FD.pk, FD.pkLen, FD.peekD, FD.pkL, FD.pkR, all]; omega)
  have hdx : ∃ x : Nat, (x ∈ cs ∨ x = en ∨ x = 42) ∧ d = .str (sg x) := by
    rcases List.mem_append.mp hd with z | z
    · obtain ⟨x, h1, rfl⟩ := List.mem_map.mp z
      exact ⟨x, .inl h1, rfl⟩
    · simp only [List.mem_cons, List.not_mem_nil, or_false] at z
      rcases z with z | z
      · exact ⟨en, .inr (.inl rfl), z⟩
      · exact ⟨42, .inr (.inr rfl), z⟩
  obtain ⟨x, hxx, rfl⟩ := hdx
  refine ⟨a1, x, hxx, ?_⟩
  have c1 : FD.bin addD (var 1) (lstE (consA (var 2) (consA (FD.ret (.str "*")) nilA))) e0 = .ok (.list all) e0 := by
    refine bin_eq (by rfl) (lstE_eq (consA_eq (by rfl) (consA_eq ret_at (by rfl))) (by simp)) ?_
    show addD (.list (cs.map fun c => PyData.str (sg c))) (.list [.str (sg en), .str "*"]) = _
    rw [addD_list, if_pos (few_le' (by simp; omega))]
    rfl
  have c2 : callD f_law_take (arB 0 (arD (FD.bin addD (cbE lenD (consA (var 1) nilA)) (FD.ret (.int 2))) arN)) e0 = .ok (.int r1) [some (stM a1 (b + 1) c), some (.im (sgsD cs)), some (.im (.str (sg en)))] :=
    callB1 (e1 := e0) (by rfl) (bin_eq (cbE_eq (consA_eq (by rfl) (by rfl)) (show lenD [sgsD cs] = some (.int (cs.length : Int)) by show some (PyData.int (((cs.map fun c => PyData.str (sg c)).length : Nat) : Int)) = _; rw [List.length_map])) ret_at addD_int) (by rfl) t1
  have b1 : g_law_side e0 = .ok (.ret (.im (.str (sg x)))) [some (stM a1 (b + 1) c), some (.im (sgsD cs)), some (.im (.str (sg en)))] := ret_eq (bin_eq c1 c2 hx)
  have u : f_law_side [stM a b c, .im (sgsD cs), .im (.str (sg en))] = endF [0] [stM a b c, .im (sgsD cs), .im (.str (sg en))] (g_law_side e0) := rfl
  rw [u, b1]
  rfl
end FDL

namespace FDL
open PySem L2 FD
theorem rule_at {a b c : Int} {cs : List Nat} (h1 : 1 ≤ cs.length) (hl : cs.length ≤ 100) (hcs : ∀ x ∈ cs, isLet x = true) (hb : 0 ≤ b) (hb2 : b < 700000) : ∃ (a' b' : Int) (r : Ru), okR r = true ∧ b ≤ b' ∧ b' ≤ b + 5 ∧ f_law_rule [stM a b c, .im (sgsD cs)] = .ok (.im (ruD r)) [stM a' b' c, .im (sgsD cs)] := by
  obtain ⟨a1, x, hx, s1⟩ := side_at (a := a) (b := b) (c := c) (cs := cs) (en := 60) hl hb (by omega)
  obtain ⟨a2, y, hy, s2⟩ := side_at (a := a1) (b := b + 1) (c := c) (cs := cs) (en := 62) hl (by omega) (by omega)
  obtain ⟨r3, a3, h30, h31, t3⟩ := take_at (a := a2) (b := b + 1 + 1) (c := c) (m := (cs.length : Int)) (by omega) (by omega) (by omega) (by omega)
  obtain ⟨r4, a4, h40, h41, t4⟩ := take_at (a := a3) (b := b + 1 + 1 + 1) (c := c) (m := 4) (by decide) (by decide) (by omega) (by omega)
  obtain ⟨r5, a5, h50, h51, t5⟩ := take_at (a := a4) (b := b + 1 + 1 + 1 + 1) (c := c) (m := 1000) (by decide) (by decide) (by omega) (by omega)
  obtain ⟨d, hd, hix⟩ := ix_list (cs := cs.map fun c => PyData.str (sg c)) (j := r3) h30 (by rw [List.length_map]; exact h31)
  obtain ⟨l, hl1, rfl⟩ := List.mem_map.mp hd
  let S := sgsD cs
  let e0 : FD.Env := [some (stM a b c), some (.im S), none, none, none, none]
  let e1 : FD.Env := [some (stM a1 (b + 1) c), some (.im S), none, none, none, none]
  let e2 : FD.Env := [some (stM a2 (b + 1 + 1) c), some (.im S), none, none, none, none]
  let e3 : FD.Env := [some (stM a2 (b + 1 + 1) c), some (.im S), some (.im (.str (sg x))), some (.im (.str (sg y))), none, none]
  let e4 : FD.Env := [some (stM a3 (b + 1 + 1 + 1) c), some (.im S), some (.im (.str (sg x))), some (.im (.str (sg y))), none, none]
  let e5 : FD.Env := [some (stM a4 (b + 1 + 1 + 1 + 1) c), some (.im S), some (.im (.str (sg x))), some (.im (.str (sg y))), none, none]
  let e6 : FD.Env := [some (stM a4 (b + 1 + 1 + 1 + 1) c), some (.im S), some (.im (.str (sg x))), some (.im (.str (sg y))), some (.im (.str (sg l))), some (.im (.int r4))]
  let e7 : FD.Env := [some (stM a5 (b + 1 + 1 + 1 + 1 + 1) c), some (.im S), some (.im (.str (sg x))), some (.im (.str (sg y))), some (.im (.str (sg l))), some (.im (.int r4))]
  have q1 : callD f_law_side (arB 0 (arD (var 1) (arD (FD.ret (.str "<")) arN))) e0 = .ok (.str (sg x)) e1 := callB2 (e1 := e0) (e2 := e0) (by rfl) (by rfl) ret_at (by rfl) s1
  have q2 : callD f_law_side (arB 0 (arD (var 1) (arD (FD.ret (.str ">")) arN))) e1 = .ok (.str (sg y)) e2 := callB2 (e1 := e1) (e2 := e1) (by rfl) (by rfl) ret_at (by rfl) s2
  have lenq : lenD [S] = some (.int (cs.length : Int)) := by
    show some (PyData.int (((cs.map fun c => PyData.str (sg c)).length : Nat) : Int)) = _
    rw [List.length_map]
  have q3 : callD f_law_take (arB 0 (arD (cbE lenD (consA (var 1) nilA)) arN)) e3 = .ok (.int r3) e4 := callB1 (e1 := e3) (by rfl) (cbE_eq (consA_eq (by rfl) (by rfl)) lenq) (by rfl) t3
  have q4 : callD f_law_take (arB 0 (arD (FD.ret (.int 4)) arN)) e4 = .ok (.int r4) e5 := callB1 (e1 := e4) (by rfl) ret_at (by rfl) t4
  have q5 : callD f_law_take (arB 0 (arD (FD.ret (.int 1000)) arN)) e6 = .ok (.int r5) e7 := callB1 (e1 := e6) (by rfl) ret_at (by rfl) t5
  have okx : okA x = true := by
    unfold okA
    rcases hx with z | z | z
    · rw [hcs x z]; rfl
    · subst z; decide
    · subst z; decide
  have oky : okB y = true := by
    unfold okB
    rcases hy with z | z | z
    · rw [hcs y z]; rfl
    · subst z; decide
    · subst z; decide
  have p1 : parS (consA (callD f_law_side (arB 0 (arD (var 1) (arD (FD.ret (.str "<")) arN)))) (consA (callD f_law_side (arB 0 (arD (var 1) (arD (FD.ret (.str ">")) arN)))) nilA)) (gsCons (gN 2) (gsCons (gN 3) gsNil)) e0 = .ok .nxt e3 := by
    unfold parS
    rw [bnd_eq (consA_eq q1 (consA_eq q2 (by rfl)))]
    rfl
  have p2 : parS (consA (FD.bin ixA (var 1) (callD f_law_take (arB 0 (arD (cbE lenD (consA (var 1) nilA)) arN)))) (consA (callD f_law_take (arB 0 (arD (FD.ret (.int 4)) arN))) nilA)) (gsCons (gN 4) (gsCons (gN 5) gsNil)) e3 = .ok .nxt e6 := by
    unfold parS
    rw [bnd_eq (consA_eq (bin_eq (by rfl) q3 hix) (consA_eq q4 (by rfl)))]
    rfl
  have t6 : tst (FD.bin eqA (var 5) (FD.ret (.int 3))) e6 = .ok (r4 == 3) e6 := tst_eq (bin_eq (by rfl) ret_at eqA_int)
  have u : f_law_rule [stM a b c, .im S] = endF [0] [stM a b c, .im S] (g_law_rule e0) := rfl
  by_cases h3 : r4 = 3
  · rw [show (r4 == 3) = true by simpa using h3] at t6
    refine ⟨a5, b + 1 + 1 + 1 + 1 + 1, ⟨x, l, y, r5⟩, ?_, by omega, by omega, ?_⟩
    · simp [FD.ret, FD.lif, FD.bnd, FD.var, FD.bin, FD.un, FD.tst, FD.andT, FD.orT, FD.notT, FD.andV, FD.orV, FD.notV, FD.ifE, FD.nilA, FD.consA, FD.tupE, FD.lstE, FD.seqS, FD.exprS, FD.retS, FD.retM, FD.ifS, FD.stoM, FD.setS, FD.setM, FD.gN, FD.gsNil, FD.gsCons, FD.gT, FD.goS, FD.asgS, FD.parS, FD.augS, FD.itE, FD.itA, FD.cbE, FD.slE, FD.intE, FD.arN, FD.arD, FD.arB, FD.callD, FD.callM, FD.slotsOf, FD.argM, FD.putB, FD.isIm, FD.endF, FD.backs, FD.args0, FD.defF, FD.chn, FD.lstM, FD.dtM, FD.dkM, FD.imM, FD.frzE, FD.has, FD.chk, FD.pk, FD.pkLen, FD.peekD, FD.pkL, FD.pkR, okR, okx, oky, hcs l hl1, h50]; omega
    · have f1 : ifE (tst (FD.bin eqA (var 5) (FD.ret (.int 3)))) (callD f_law_take (arB 0 (arD (FD.ret (.int 1000)) arN))) (var 5) e6 = .ok (.int r5) e7 := by
        unfold ifE
        rw [bnd_eq t6]
        exact q5
      have b1 : g_law_rule e0 = .ok (.ret (.im (ruD ⟨x, l, y, r5⟩))) e7 := by
        unfold g_law_rule
        rw [seqS_nxt p1, seqS_nxt p2]
        exact ret_eq (tupE_eq (consA_eq (by rfl) (consA_eq (by rfl) (consA_eq (by rfl) (consA_eq f1 (by rfl))))) (by simp))
      rw [u, b1]
      rfl
  · rw [show (r4 == 3) = false by simpa using h3] at t6
    refine ⟨a4, b + 1 + 1 + 1 + 1, ⟨x, l, y, r4⟩, ?_, by omega, by omega, ?_⟩
    · simp [FD.ret, FD.lif, FD.bnd, FD.var, FD.bin, FD.un, FD.tst, FD.andT, FD.orT, FD.notT, FD.andV, FD.orV, FD.notV, FD.ifE, FD.nilA, FD.consA, FD.tupE, FD.lstE, FD.seqS, FD.exprS, FD.retS, FD.retM, FD.ifS, FD.stoM, FD.setS, FD.setM, FD.gN, FD.gsNil, FD.gsCons, FD.gT, FD.goS, FD.asgS, FD.parS, FD.augS, FD.itE, FD.itA, FD.cbE, FD.slE, FD.intE, FD.arN, FD.arD, FD.arB, FD.callD, FD.callM, FD.slotsOf, FD.argM, FD.putB, FD.isIm, FD.endF, FD.backs, FD.args0, FD.defF, FD.chn, FD.lstM, FD.dtM, FD.dkM, FD.imM, FD.frzE, FD.has, FD.chk, FD.pk, FD.pkLen, FD.peekD, FD.pkL, FD.pkR, okR, okx, oky, hcs l hl1, h40]; omega
    · have f1 : ifE (tst (FD.bin eqA (var 5) (FD.ret (.int 3)))) (callD f_law_take (arB 0 (arD (FD.ret (.int 1000)) arN))) (var 5) e6 = .ok (.int r4) e6 := by
        unfold ifE
        rw [bnd_eq t6]
        rfl
      have b1 : g_law_rule e0 = .ok (.ret (.im (ruD ⟨x, l, y, r4⟩))) e6 := by
        unfold g_law_rule
        rw [seqS_nxt p1, seqS_nxt p2]
        exact ret_eq (tupE_eq (consA_eq (by rfl) (consA_eq (by rfl) (consA_eq (by rfl) (consA_eq f1 (by rfl))))) (by simp))
      rw [u, b1]
      rfl
end FDL

namespace FDL
open PySem L2 FD
def lsM (rs : List Ru) : M := .ls (rs.map fun r => .im (ruD r))
theorem toD_ls (rs : List Ru) : (lsM rs).toD = some (.list (rs.map ruD)) := by
  have : (rs.map fun r => M.im (ruD r)) = (rs.map ruD).map M.im := by rw [List.map_map]; rfl
  unfold lsM
  rw [this]
  show (imAll ((rs.map ruD).map M.im)).map PyData.list = _
  rw [imAll_im]
  rfl
theorem ne_list {rs : List Ru} (h : ∀ r ∈ rs, okR r = true) : neD (.list (rs.map ruD)) (.list []) = some (.bool (!rs.isEmpty)) := by
  have s2 := (gd_list (k := 1) (W := 44) (ds := rs.map ruD) fun d hd => by
    obtain ⟨g, h1, rfl⟩ := List.mem_map.mp hd
    exact gd_ru (h g h1)).shp (by decide)
  have s3 : SeqAt.shaped (.list []) = true := by decide
  unfold neD eqOk
  rw [s2, s3]
  simp only [Bool.and_self, Bool.or_true, if_true]
  congr 2
  cases rs <;> simp [FD.ret, FD.lif, FD.bnd, FD.var, FD.bin, FD.un, FD.tst, FD.andT, FD.orT, FD.notT, FD.andV, FD.orV, FD.notV, FD.ifE, FD.nilA, FD.consA, FD.tupE, FD.lstE, FD.seqS, FD.exprS, FD.retS, FD.retM, FD.ifS, FD.stoM, FD.setS, FD.setM, FD.gN, FD.gsNil, FD.gsCons, FD.gT, FD.goS, FD.asgS, FD.parS, FD.augS, FD.itE, FD.itA, FD.cbE, FD.slE, FD.intE, FD.arN, FD.arD, FD.arB, FD.callD, FD.callM, FD.slotsOf, FD.argM, FD.putB, FD.isIm, FD.endF, FD.backs, FD.args0, FD.defF, FD.chn, FD.lstM, FD.dtM, FD.dkM, FD.imM, FD.frzE, FD.has, FD.chk, FD.pk, FD.pkLen, FD.peekD, FD.pkL, FD.pkR, PyData.eqv, PyData.eqvAll]
theorem mixed_ru {r s : Ru} : FD.bin addD (slE (var 6) (FD.ret none) (intE (FD.ret (.int 3)))) (slE (var 5) (intE (FD.ret (.int 3))) (FD.ret none)) = FD.bin addD (slE (var 6) (FD.ret none) (intE (FD.ret (.int 3)))) (slE (var 5) (intE (FD.ret (.int 3))) (FD.ret none)) := rfl
theorem sl_ru_hi {r : Ru} : slD (ruD r) none (some 3) = some (.tuple [.str (sg r.a), .str (sg r.l), .str (sg r.b)]) := rfl
theorem sl_ru_lo {r : Ru} : slD (ruD r) (some 3) none = some (.tuple [.int r.p]) := rfl
def eR (a b c : Int) (S n : D) (rs : List Ru) (x4 x5 x6 : Option M) : FD.Env := [some (stM a b c), some (.im S), some (.im n), some (lsM rs), x4, x5, x6]
theorem peek_at {a b c : Int} {S n : D} {rs : List Ru} {x4 x5 x6 : Option M} : peekD 3 (eR a b c S n rs x4 x5 x6) = some (.list (rs.map ruD)) := toD_ls rs
theorem len_at {a b c : Int} {S n : D} {rs : List Ru} {x4 x5 x6 : Option M} : pkLen 3 (eR a b c S n rs x4 x5 x6) = .ok (.int (rs.length : Int)) (eR a b c S n rs x4 x5 x6) := by
  have h := peek_at (a := a) (b := b) (c := c) (S := S) (n := n) (rs := rs) (x4 := x4) (x5 := x5) (x6 := x6)
  unfold pkLen chk pk
  rw [if_pos (by rfl), h]
  show Out.ok (PyData.int (((rs.map ruD).length : Nat) : Int)) _ = _
  rw [List.length_map]
theorem item_ls {a b c : Int} {S n : D} {rs : List Ru} {x4 x5 x6 : Option M} {j : Int} (h0 : 0 ≤ j) (h1 : j < rs.length) : ∃ r ∈ rs, itemA 3 (.int j) (eR a b c S n rs x4 x5 x6) = some (ruD r) := by
  have hj : j.toNat < rs.length := by omega
  refine ⟨rs[j.toNat], List.getElem_mem hj, ?_⟩
  have : atI (rs.map fun r => M.im (ruD r)) j = some (.im (ruD rs[j.toNat])) := by
    unfold atI ixN
    rw [if_pos h0, if_pos (by rw [List.length_map]; exact h1)]
    show (rs.map fun r => M.im (ruD r))[j.toNat]? = _
    rw [List.getElem?_map, List.getElem?_eq_getElem hj]
    rfl
  show (match atI (rs.map fun r => M.im (ruD r)) j with | some (.im d) => some d | _ => none) = _
  rw [this]
end FDL

namespace FDL
open PySem L2 FD
theorem app_at {a b c : Int} {S n : D} {rs : List Ru} {x4 x6 : Option M} {r : Ru} (hl : rs.length ≤ 1000) : appS 3 (var 5) (eR a b c S n rs x4 (some (.im (ruD r))) x6) = .ok .nxt (eR a b c S n (rs ++ [r]) x4 (some (.im (ruD r))) x6) := by
  unfold appS
  rw [if_pos (by rfl), bnd_eq (a := ruD r) (e1 := eR a b c S n rs x4 (some (.im (ruD r))) x6) (by rfl)]
  show (if few ((rs.map fun r => M.im (ruD r)).length + 1) then _ else _) = _
  rw [if_pos (few_le' (by rw [List.length_map]; omega))]
  unfold eR lsM
  rw [List.map_append]
  rfl
theorem pkL_at {a b c : Int} {S n : D} {rs : List Ru} {x4 x5 x6 : Option M} (h : ∀ r ∈ rs, okR r = true) : tst (pkL 3 neD (lstE nilA)) (eR a b c S n rs x4 x5 x6) = .ok (!rs.isEmpty) (eR a b c S n rs x4 x5 x6) := by
  refine tst_eq ?_
  unfold pkL chk
  rw [if_pos (by rfl), bnd_eq (a := .list []) (e1 := eR a b c S n rs x4 x5 x6) (by rfl)]
  unfold pk
  rw [peek_at]
  show lif (neD (.list (rs.map ruD)) (.list [])) _ = _
  rw [ne_list h]
  rfl
theorem turn_rules {a b c : Int} {cs : List Nat} {n : D} {rs : List Ru} (x4 x5 x6 : Option M) (h1 : 1 ≤ cs.length) (hl : cs.length ≤ 100) (hcs : ∀ x ∈ cs, isLet x = true) (hb : 0 ≤ b) (hb2 : b < 600000) (hr : ∀ r ∈ rs, okR r = true) (hrl : rs.length ≤ 500) :
    ∃ (a' b' : Int) (r : Ru) (y5 y6 : Option M), okR r = true ∧ b ≤ b' ∧ b' ≤ b + 8 ∧ seqS (setS 5 (callD f_law_rule (arB 0 (arD (var 1) arN)))) (seqS (ifS (andT (tst (pkL 3 neD (lstE nilA))) (tst (FD.bin eqA (callD f_law_take (arB 0 (arD (FD.ret (.int 6)) arN))) (FD.ret (.int 0))))) (seqS (setS 6 (pkIxA 3 (callD f_law_take (arB 0 (arD (pkLen 3) arN))))) (setS 5 (ifE (tst (FD.bin eqA (callD f_law_take (arB 0 (arD (FD.ret (.int 2)) arN))) (FD.ret (.int 0)))) (var 6) (FD.bin addD (slE (var 6) (FD.ret none) (intE (FD.ret (.int 3)))) (slE (var 5) (intE (FD.ret (.int 3))) (FD.ret none)))))) (FD.ret .nxt)) (appS 3 (var 5)))
      (eR a b c (sgsD cs) n rs x4 x5 x6) = .ok .nxt (eR a' b' c (sgsD cs) n (rs ++ [r]) x4 y5 y6) := by
  obtain ⟨a1, b1, r0, ok0, hb0, hb1, q1⟩ := rule_at (a := a) (b := b) (c := c) h1 hl hcs hb (by omega)
  let e1 : FD.Env := eR a1 b1 c (sgsD cs) n rs x4 (some (.im (ruD r0))) x6
  have s1 : setS 5 (callD f_law_rule (arB 0 (arD (var 1) arN))) (eR a b c (sgsD cs) n rs x4 x5 x6) = .ok .nxt e1 :=
    setS_eq (e1 := eR a1 b1 c (sgsD cs) n rs x4 x5 x6) (callB1 (e1 := eR a b c (sgsD cs) n rs x4 x5 x6) (by rfl) (by rfl) (by rfl) q1) (by simp [FD.ret, FD.lif, FD.bnd, FD.var, FD.bin, FD.un, FD.tst, FD.andT, FD.orT, FD.notT, FD.andV, FD.orV, FD.notV, FD.ifE, FD.nilA, FD.consA, FD.tupE, FD.lstE, FD.seqS, FD.exprS, FD.retS, FD.retM, FD.ifS, FD.stoM, FD.setS, FD.setM, FD.gN, FD.gsNil, FD.gsCons, FD.gT, FD.goS, FD.asgS, FD.parS, FD.augS, FD.itE, FD.itA, FD.cbE, FD.slE, FD.intE, FD.arN, FD.arD, FD.arB, FD.callD, FD.callM, FD.slotsOf, FD.argM, FD.putB, FD.isIm, FD.endF, FD.backs, FD.args0, FD.defF, FD.chn, FD.lstM, FD.dtM, FD.dkM, FD.imM, FD.frzE, FD.has, FD.chk, FD.pk, FD.pkLen, FD.peekD, FD.pkL, FD.pkR, eR])
  have t1 := pkL_at (a := a1) (b := b1) (c := c) (S := sgsD cs) (n := n) (x4 := x4) (x5 := some (.im (ruD r0))) (x6 := x6) hr
  rw [seqS_nxt s1]
  cases he : rs.isEmpty with
  | true =>
    rw [he] at t1
    refine ⟨a1, b1, r0, some (.im (ruD r0)), x6, ok0, by omega, by omega, ?_⟩
    rw [seqS_nxt (e' := e1) (by rw [ifS_eq (b := false) (e1 := e1) (by rw [andT_eq t1]; rfl)]; rfl)]
    exact app_at (by omega)
  | false =>
    rw [he] at t1
    obtain ⟨r2, a2, _, _, q2⟩ := take_at (a := a1) (b := b1) (c := c) (m := 6) (by decide) (by decide) (by omega) (by omega)
    let e2 : FD.Env := eR a2 (b1 + 1) c (sgsD cs) n rs x4 (some (.im (ruD r0))) x6
    have t2 : tst (FD.bin eqA (callD f_law_take (arB 0 (arD (FD.ret (.int 6)) arN))) (FD.ret (.int 0))) e1 = .ok (r2 == 0) e2 := tst_eq (bin_eq (callB1 (e1 := e1) (by rfl) ret_at (by rfl) q2) ret_at eqA_int)
    have ta : andT (tst (pkL 3 neD (lstE nilA))) (tst (FD.bin eqA (callD f_law_take (arB 0 (arD (FD.ret (.int 6)) arN))) (FD.ret (.int 0)))) e1 = .ok (r2 == 0) e2 := by
      rw [andT_eq t1]
      exact t2
    cases hz : r2 == 0 with
    | false =>
      rw [hz] at ta
      refine ⟨a2, b1 + 1, r0, some (.im (ruD r0)), x6, ok0, by omega, by omega, ?_⟩
      rw [seqS_nxt (e' := e2) (by rw [ifS_eq ta]; rfl)]
      exact app_at (by omega)
    | true =>
      rw [hz] at ta
      have hne : rs ≠ [] := by simpa using he
      have hpos : 0 < rs.length := List.length_pos_iff.mpr hne
      obtain ⟨r3, a3, h30, h31, q3⟩ := take_at (a := a2) (b := b1 + 1) (c := c) (m := (rs.length : Int)) (by omega) (by omega) (by omega) (by omega)
      let e3 : FD.Env := eR a3 (b1 + 1 + 1) c (sgsD cs) n rs x4 (some (.im (ruD r0))) x6
      obtain ⟨el, hel, hit⟩ := item_ls (a := a3) (b := b1 + 1 + 1) (c := c) (S := sgsD cs) (n := n) (x4 := x4) (x5 := some (.im (ruD r0))) (x6 := x6) h30 h31
      have k3 : callD f_law_take (arB 0 (arD (pkLen 3) arN)) e2 = .ok (.int r3) e3 := callB1 (e1 := e2) (by rfl) len_at (by rfl) q3
      have k4 : pkIxA 3 (callD f_law_take (arB 0 (arD (pkLen 3) arN))) e2 = .ok (ruD el) e3 := by
        unfold pkIxA chk
        rw [if_pos (by rfl), bnd_eq k3, hit]
        rfl
      let e4 : FD.Env := eR a3 (b1 + 1 + 1) c (sgsD cs) n rs x4 (some (.im (ruD r0))) (some (.im (ruD el)))
      have s4 : setS 6 (pkIxA 3 (callD f_law_take (arB 0 (arD (pkLen 3) arN)))) e2 = .ok .nxt e4 := setS_eq (e1 := e3) k4 (by simp [FD.ret, FD.lif, FD.bnd, FD.var, FD.bin, FD.un, FD.tst, FD.andT, FD.orT, FD.notT, FD.andV, FD.orV, FD.notV, FD.ifE, FD.nilA, FD.consA, FD.tupE, FD.lstE, FD.seqS, FD.exprS, FD.retS, FD.retM, FD.ifS, FD.stoM, FD.setS, FD.setM, FD.gN, FD.gsNil, FD.gsCons, FD.gT, FD.goS, FD.asgS, FD.parS, FD.augS, FD.itE, FD.itA, FD.cbE, FD.slE, FD.intE, FD.arN, FD.arD, FD.arB, FD.callD, FD.callM, FD.slotsOf, FD.argM, FD.putB, FD.isIm, FD.endF, FD.backs, FD.args0, FD.defF, FD.chn, FD.lstM, FD.dtM, FD.dkM, FD.imM, FD.frzE, FD.has, FD.chk, FD.pk, FD.pkLen, FD.peekD, FD.pkL, FD.pkR, e3, eR])
      obtain ⟨r5, a5, _, _, q5⟩ := take_at (a := a3) (b := b1 + 1 + 1) (c := c) (m := 2) (by decide) (by decide) (by omega) (by omega)
      let e5 : FD.Env := eR a5 (b1 + 1 + 1 + 1) c (sgsD cs) n rs x4 (some (.im (ruD r0))) (some (.im (ruD el)))
      have t5 : tst (FD.bin eqA (callD f_law_take (arB 0 (arD (FD.ret (.int 2)) arN))) (FD.ret (.int 0))) e4 = .ok (r5 == 0) e5 := tst_eq (bin_eq (callB1 (e1 := e4) (by rfl) ret_at (by rfl) q5) ret_at eqA_int)
      have f5 : ∃ r, okR r = true ∧ ifE (tst (FD.bin eqA (callD f_law_take (arB 0 (arD (FD.ret (.int 2)) arN))) (FD.ret (.int 0)))) (var 6) (FD.bin addD (slE (var 6) (FD.ret none) (intE (FD.ret (.int 3)))) (slE (var 5) (intE (FD.ret (.int 3))) (FD.ret none))) e4 = .ok (ruD r) e5 := by
        unfold ifE
        rw [bnd_eq t5]
        cases r5 == 0 with
        | true => exact ⟨el, hr el hel, rfl⟩
        | false =>
          refine ⟨⟨el.a, el.l, el.b, r0.p⟩, ?_, ?_⟩
          · have o1 := hr el hel
            simp only [okR, Bool.and_eq_true] at o1 ok0 ⊢
            exact ⟨o1.1, ok0.2⟩
          · exact bin_eq (slE_eq (by rfl) ret_at (intE_eq ret_at) sl_ru_hi) (slE_eq (by rfl) (intE_eq ret_at) ret_at sl_ru_lo) (by rfl)
      obtain ⟨r, okr, f5⟩ := f5
      refine ⟨a5, b1 + 1 + 1 + 1, r, some (.im (ruD r)), some (.im (ruD el)), okr, by omega, by omega, ?_⟩
      rw [seqS_nxt (e' := eR a5 (b1 + 1 + 1 + 1) c (sgsD cs) n rs x4 (some (.im (ruD r))) (some (.im (ruD el)))) (by
        rw [ifS_eq ta]
        show seqS _ _ e2 = _
        rw [seqS_nxt s4]
        exact setS_eq (e1 := e5) f5 (by simp [FD.ret, FD.lif, FD.bnd, FD.var, FD.bin, FD.un, FD.tst, FD.andT, FD.orT, FD.notT, FD.andV, FD.orV, FD.notV, FD.ifE, FD.nilA, FD.consA, FD.tupE, FD.lstE, FD.seqS, FD.exprS, FD.retS, FD.retM, FD.ifS, FD.stoM, FD.setS, FD.setM, FD.gN, FD.gsNil, FD.gsCons, FD.gT, FD.goS, FD.asgS, FD.parS, FD.augS, FD.itE, FD.itA, FD.cbE, FD.slE, FD.intE, FD.arN, FD.arD, FD.arB, FD.callD, FD.callM, FD.slotsOf, FD.argM, FD.putB, FD.isIm, FD.endF, FD.backs, FD.args0, FD.defF, FD.chn, FD.lstM, FD.dtM, FD.dkM, FD.imM, FD.frzE, FD.has, FD.chk, FD.pk, FD.pkLen, FD.peekD, FD.pkL, FD.pkR, e5, eR]))]
      exact app_at (by omega)
end FDL

namespace FDL
open PySem L2 FD
theorem rules_loop2 {c : Int} {cs : List Nat} {n : D} (h1 : 1 ≤ cs.length) (hl : cs.length ≤ 100) (hcs : ∀ x ∈ cs, isLet x = true) : ∀ (ds : List D) (a b : Int) (rs : List Ru) (x4 x5 x6 : Option M), (∀ r ∈ rs, okR r = true) → rs.length + ds.length ≤ 80 → 0 ≤ b → b + 8 * ds.length < 600000 →
    ∃ (a' b' : Int) (rs' : List Ru) (y4 y5 y6 : Option M), (∀ r ∈ rs', okR r = true) ∧ rs'.length = rs.length + ds.length ∧ b ≤ b' ∧ b' ≤ b + 8 * ds.length ∧ loopS (gN 4) (seqS (setS 5 (callD f_law_rule (arB 0 (arD (var 1) arN)))) (seqS (ifS (andT (tst (pkL 3 neD (lstE nilA))) (tst (FD.bin eqA (callD f_law_take (arB 0 (arD (FD.ret (.int 6)) arN))) (FD.ret (.int 0))))) (seqS (setS 6 (pkIxA 3 (callD f_law_take (arB 0 (arD (pkLen 3) arN))))) (setS 5 (ifE (tst (FD.bin eqA (callD f_law_take (arB 0 (arD (FD.ret (.int 2)) arN))) (FD.ret (.int 0)))) (var 6) (FD.bin addD (slE (var 6) (FD.ret none) (intE (FD.ret (.int 3)))) (slE (var 5) (intE (FD.ret (.int 3))) (FD.ret none)))))) (FD.ret .nxt)) (appS 3 (var 5))))
      ds (eR a b c (sgsD cs) n rs x4 x5 x6) = .ok .nxt (eR a' b' c (sgsD cs) n rs' y4 y5 y6)
  | [], a, b, rs, x4, x5, x6, hr, _, _, _ => ⟨a, b, rs, x4, x5, x6, hr, by simp, by omega, by simp, rfl⟩
  | d :: ds, a, b, rs, x4, x5, x6, hr, hlen, hb, hb2 => by
    rw [List.length_cons] at hlen hb2
    obtain ⟨a1, b1, r, y5, y6, okr, hb3, hb4, ht⟩ := turn_rules (a := a) (b := b) (c := c) (n := n) (some (.im d)) x5 x6 h1 hl hcs hb (by omega) hr (by omega)
    have hr' : ∀ x ∈ rs ++ [r], okR x = true := fun x hx => by
      rcases List.mem_append.mp hx with z | z
      · exact hr x z
      · simp at z; rw [z]; exact okr
    obtain ⟨a2, b2, rs', z4, z5, z6, g1, g2, g3, g4, g5⟩ := rules_loop2 (c := c) (n := n) h1 hl hcs ds a1 b1 (rs ++ [r]) (some (.im d)) y5 y6 hr' (by simp; omega) (by omega) (by omega)
    refine ⟨a2, b2, rs', z4, z5, z6, g1, ?_, by omega, ?_, ?_⟩
    · rw [g2]; simp; omega
    · rw [List.length_cons]; omega
    · rw [loopS_cons (e1 := eR a b c (sgsD cs) n rs (some (.im d)) x5 x6) (by rfl) ht]
      exact g5
theorem runB3 {n : Nat} {g : EM FD.Flow} {m0 m1 m : M} {d d' : D} {e' : FD.Env} (h : g (some m0 :: some (.im d) :: some (.im d') :: List.replicate n none) = .ok (.ret m) e') (h2 : e'[0]? = some (some m1)) : defF 3 (n + 3) [0] g [m0, .im d, .im d'] = .ok m [m1, .im d, .im d'] := by
  simp [FD.ret, FD.lif, FD.bnd, FD.var, FD.bin, FD.un, FD.tst, FD.andT, FD.orT, FD.notT, FD.andV, FD.orV, FD.notV, FD.ifE, FD.nilA, FD.consA, FD.tupE, FD.lstE, FD.seqS, FD.exprS, FD.retS, FD.retM, FD.ifS, FD.stoM, FD.setS, FD.setM, FD.gN, FD.gsNil, FD.gsCons, FD.gT, FD.goS, FD.asgS, FD.parS, FD.augS, FD.itE, FD.itA, FD.cbE, FD.slE, FD.intE, FD.arN, FD.arD, FD.arB, FD.callD, FD.callM, FD.slotsOf, FD.argM, FD.putB, FD.isIm, FD.endF, FD.backs, FD.args0, FD.defF, FD.chn, FD.lstM, FD.dtM, FD.dkM, FD.imM, FD.frzE, FD.has, FD.chk, FD.pk, FD.pkLen, FD.peekD, FD.pkL, FD.pkR, defF, args0, h, endF, backs, h2]
theorem rules_at {a b c : Int} {cs : List Nat} {n : Nat} (h1 : 1 ≤ cs.length) (hl : cs.length ≤ 100) (hcs : ∀ x ∈ cs, isLet x = true) (hn : n ≤ 80) (hb : 0 ≤ b) (hb2 : b < 500000) : ∃ (a' b' : Int) (rs : List Ru), okBo rs ∧ rs.length = n ∧ b ≤ b' ∧ b' ≤ b + 8 * n ∧ f_law_rules [stM a b c, .im (sgsD cs), .im (.int (n : Nat))] = .ok (.im (boD rs)) [stM a' b' c, .im (sgsD cs), .im (.int (n : Nat))] := by
  obtain ⟨a', b', rs, y4, y5, y6, g1, g2, g3, g4, g5⟩ := rules_loop2 (c := c) (n := .int (n : Nat)) h1 hl hcs ((List.range n).map fun k => PyData.int (k : Nat)) a b [] none none none (fun r hr => by cases hr) (by simp; exact hn) hb (by simp; omega)
  refine ⟨a', b', rs, ⟨g1, by rw [g2]; simp; exact hn⟩, by rw [g2]; simp, g3, by simpa using g4, ?_⟩
  let e0 : FD.Env := [some (stM a b c), some (.im (sgsD cs)), some (.im (.int (n : Nat))), none, none, none, none]
  let eF : FD.Env := [some (stM a' b' c), some (.im (sgsD cs)), some (.im (.int (n : Nat))), some (.im (.list (rs.map ruD))), y4, y5, y6]
  have hv : var 3 (eR a' b' c (sgsD cs) (.int (n : Nat)) rs y4 y5 y6) = .ok (.list (rs.map ruD)) eF := by
    have := toD_ls rs
    unfold eR lsM
    unfold lsM at this
    simp only [var, List.getElem?_cons_succ, List.getElem?_cons_zero, this]
    rfl
  have b1 : g_law_rules e0 = .ok (.ret (.im (boD rs))) eF := by
    have s0 : setM 3 (lstM nilA) e0 = .ok .nxt (eR a b c (sgsD cs) (.int (n : Nat)) [] none none none) := by unfold setM; rw [bnd_eq (a := lsM []) (e1 := e0) (by rfl)]; rfl
    unfold g_law_rules
    rw [seqS_nxt s0]
    rw [seqS_nxt (e' := eR a' b' c (sgsD cs) (.int (n : Nat)) rs y4 y5 y6) (by
      have hc : consA (var 2) nilA (eR a b c (sgsD cs) (.int (n : Nat)) [] none none none) = .ok [.int (n : Nat)] (eR a b c (sgsD cs) (.int (n : Nat)) [] none none none) := consA_eq (e1 := eR a b c (sgsD cs) (.int (n : Nat)) [] none none none) rfl rfl
      rw [forS_eq (itA_eq hc (rng1_nat (n := n) (by omega)))]
      exact g5)]
    exact ret_eq (cbE_eq (consA_eq hv (by rfl)) (by rfl))
  exact runB3 (n := 4) b1 rfl
theorem stream_at {x k : Int} (h0 : 0 ≤ k) (h1 : k ≤ 1000) : ∃ a c : Int, f_law_stream [.im (.int x), .im (.int k)] = .ok (stM a 0 c) [.im (.int x), .im (.int k)] := by
  obtain ⟨r, _, _, hm⟩ := mixed_at (a := x) (k := k) h0 (by omega)
  let e : FD.Env := [some (.im (.int x)), some (.im (.int k))]
  have t : tst (FD.bin geI (var 0) (FD.bin powD (FD.ret (.int 10)) (FD.ret (.int 18)))) e = .ok (decide ((1000000000000000000 : Int) ≤ x)) e := tst_eq (bin_eq (by rfl) (by rfl) geI_int)
  have f : ∃ a : Int, ifE (tst (FD.bin geI (var 0) (FD.bin powD (FD.ret (.int 10)) (FD.ret (.int 18))))) (var 0) (FD.ret (.int 0)) e = .ok (.int a) e := by
    unfold ifE
    rw [bnd_eq t]
    cases decide ((1000000000000000000 : Int) ≤ x) with
    | true => exact ⟨x, rfl⟩
    | false => exact ⟨0, rfl⟩
  obtain ⟨a, f⟩ := f
  refine ⟨a, r, ?_⟩
  have b1 : g_law_stream e = .ok (.ret (stM a 0 r)) e := by
    unfold g_law_stream retM
    rw [bnd_eq (a := stM a 0 r) (e1 := e) (by
      unfold lstM
      rw [bnd_eq (consA_eq f (consA_eq ret_at (consA_eq (call2 (by rfl) (by rfl) hm (by rfl)) (by rfl))))]
      rfl)]
    rfl
  exact run2 (n := 0) b1
end FDL

namespace FDL
open PySem L2 FD
/-! ### draws, run forward -/
theorem stream_wp {x k : Int} {K : M → List M → Prop} (h0 : 0 ≤ k) (h1 : k ≤ 1000) (h : ∀ a c, K (stM a 0 c) [.im (.int x), .im (.int k)]) : wpR (f_law_stream [.im (.int x), .im (.int k)]) K := by
  obtain ⟨a, c, e⟩ := stream_at (x := x) h0 h1
  rw [e, wpR_ok]
  exact h a c
theorem take_wp {a b c m : Int} {K : M → List M → Prop} (hm : 0 < m) (hm2 : m < 1073741824) (hb : 0 ≤ b) (hb2 : b < 900000) (h : ∀ r a', 0 ≤ r → r < m → K (.im (.int r)) [stM a' (b + 1) c, .im (.int m)]) : wpR (f_law_take [stM a b c, .im (.int m)]) K := by
  obtain ⟨r, a', h0, h1, e⟩ := take_at (a := a) (c := c) hm hm2 hb hb2
  rw [e, wpR_ok]
  exact h r a' h0 h1
theorem signs_wp {a b c n : Int} {K : M → List M → Prop} (hn0 : 0 ≤ n) (hn : n ≤ 100) (hb : 0 ≤ b) (hb2 : b < 800000) (h : ∀ a' (cs : List Nat), (cs.length : Int) = n → (∀ x ∈ cs, isLet x = true) → K (.im (sgsD cs)) [stM a' (b + 2) c, .im (.int n)]) : wpR (f_law_signs [stM a b c, .im (.int n)]) K := by
  obtain ⟨k, rfl⟩ := Int.eq_ofNat_of_zero_le hn0
  obtain ⟨a', cs, h1, h2, e⟩ := signs_at (a := a) (c := c) (n := k) (by omega) hb hb2
  rw [e, wpR_ok]
  have hh := h a' cs (by omega) h2
  exact hh
theorem rules_wp {a b c n : Int} {cs : List Nat} {K : M → List M → Prop} (h1 : 1 ≤ cs.length) (hl : cs.length ≤ 100) (hcs : ∀ x ∈ cs, isLet x = true) (hn0 : 0 ≤ n) (hn : n ≤ 80) (hb : 0 ≤ b) (hb2 : b < 500000)
    (h : ∀ a' b' (rs : List Ru), okBo rs → (rs.length : Int) = n → b ≤ b' → b' ≤ b + 8 * n → K (.im (boD rs)) [stM a' b' c, .im (sgsD cs), .im (.int n)]) : wpR (f_law_rules [stM a b c, .im (sgsD cs), .im (.int n)]) K := by
  obtain ⟨k, rfl⟩ := Int.eq_ofNat_of_zero_le hn0
  have q := rules_at (a := a) (c := c) (n := k) h1 hl hcs (by omega) hb hb2
  refine Exists.elim q fun a' q => ?_
  refine Exists.elim q fun b' q => ?_
  refine Exists.elim q fun rs q => ?_
  have g1 := q.1
  have g2 := q.2.1
  have g3 := q.2.2.1
  have g4 := q.2.2.2.1
  have e := q.2.2.2.2
  rw [e, wpR_ok]
  exact h a' b' rs g1 (by omega) g3 g4
/-! ### the cells -/
theorem cells_cut {ns : List Int} (k : Nat) : slD (.list (ns.map PyData.int ++ [.int 0])) none (some (k : Int)) = some (.list (((ns ++ [0]).take k).map PyData.int)) := by
  show some (PyData.list (cutD _ none (some ((k : Nat) : Int)))) = _
  rw [cut_hi, List.map_take, List.map_append]
  rfl
theorem enum_ints (ns : List Int) : enumDs (ns.map PyData.int) = ns.zipIdx.map fun q => PyData.tuple [.int (q.2 : Nat), .int q.1] := by
  unfold enumDs
  rw [List.zipIdx_map, List.map_map]
  rfl
theorem cells_mem {ns : List Int} {k : Nat} {q : Int × Nat} (h : q ∈ ((ns ++ [0]).take k).zipIdx) : q.2 < k := by
  have := List.snd_lt_of_mem_zipIdx h
  rw [List.length_take] at this
  omega
end FDL

namespace FDL
open PySem L2 FD
@[simp] theorem wp_gT_ru {u : List D → EM Unit} {r : Ru} {e : FD.Env} {Q : Unit → FD.Env → Prop} {E : EX} : wp (gT 4 u (ruD r)) e Q E = wp (u [.str (sg r.a), .str (sg r.l), .str (sg r.b), .int r.p]) e Q E := by
  unfold ruD; simp
@[simp] theorem ix_ru0 {r : Ru} : ixA (ruD r) (.int 0) = some (.str (sg r.a)) := rfl
@[simp] theorem ix_ru1 {r : Ru} : ixA (ruD r) (.int 1) = some (.str (sg r.l)) := rfl
@[simp] theorem ix_ru2 {r : Ru} : ixA (ruD r) (.int 2) = some (.str (sg r.b)) := rfl
@[simp] theorem ix_ru3 {r : Ru} : ixA (ruD r) (.int 3) = some (.int r.p) := rfl
@[simp] theorem ix_ca0 {r : Ca} : ixA (caD r) (.int 0) = some (.str (sg r.a)) := rfl
@[simp] theorem ix_ca1 {r : Ca} : ixA (caD r) (.int 1) = some (.str (sg r.l)) := rfl
@[simp] theorem ix_ca2 {r : Ca} : ixA (caD r) (.int 2) = some (.str (sg r.b)) := rfl
@[simp] theorem itX_bo {rs : List Ru} : itX (boD rs) = some (rs.map ruD) := rfl
@[simp] theorem len_bo {rs : List Ru} : lenD [boD rs] = some (.int rs.length) := by unfold boD; simp
@[simp] theorem add_bo {a b : List Ru} : addD (boD a) (boD b) = if few (a.length + b.length) then some (boD (a ++ b)) else none := by unfold boD; simp
def okC (c : Ca) : Bool := (isLet c.a || 60 == c.a) && isLet c.l && (isLet c.b || 62 == c.b)
theorem let_ne {c : Nat} (h : isLet c = true) : c ≠ 42 ∧ c ≠ 60 ∧ c ≠ 62 := by
  simp only [isLet, Bool.and_eq_true, decide_eq_true_eq] at h
  omega
theorem need_case_at {c : Ca} (h : okC c = true) : fneed_case [.im (caD c)] = .ok (.im .none) [.im (caD c)] := by
  simp only [okC, Bool.and_eq_true, Bool.or_eq_true, beq_iff_eq] at h
  obtain ⟨⟨h1, h2⟩, h3⟩ := h
  have c1 : c.a ∈ codes := by rcases h1 with h | h; exact codes_let h; rw [← h]; decide
  have c3 : c.b ∈ codes := by rcases h3 with h | h; exact codes_let h; rw [← h]; decide
  have e1 := is_side_at (e := 60) c1
  have e2 := is_letter_at (codes_let h2)
  have e3 := is_side_at (e := 62) c3
  have t1 : (isLet c.a || (60 == c.a || 42 == c.a)) = true := by rcases h1 with h | h <;> simp [h]
  have t3 : (isLet c.b || (62 == c.b || 42 == c.b)) = true := by rcases h3 with h | h <;> simp [h]
  rw [t1] at e1
  rw [h2] at e2
  rw [t3] at e3
  have n1 : (c.a == 42) = false := by rw [beq_eq_false_iff_ne]; rcases h1 with h | h; exact (let_ne h).1; omega
  have n3 : (c.b == 42) = false := by rw [beq_eq_false_iff_ne]; rcases h3 with h | h; exact (let_ne h).1; omega
  apply wpR_eq
  unfold fneed_case
  refine wpR_def rfl ?_
  simp [gneed_case, args0, caD, first_sg, last_sg, star_sg, e1, e2, e3, n1, n3]
/-! ### prices -/
def costs (rs : List Ru) (c : Ca) : List Int := (rs.filter fun r => fits r c).map (·.p)
def optD : Option Int → D
  | none => .none
  | some i => .int i
theorem ints_map (ns : List Int) : intsOf (ns.map PyData.int) = some ns := by
  induction ns with
  | nil => rfl
  | cons b bs ih =>
    show (intsOf (bs.map PyData.int)).map (b :: ·) = _
    rw [ih]
    rfl
theorem min_ints (ns : List Int) : minD [.list (ns.map PyData.int)] = (minI ns).map .int := by
  show (intsOf (ns.map PyData.int)).bind _ = _
  rw [ints_map]
  rfl
theorem max_ints (ns : List Int) : maxD [.list (ns.map PyData.int)] = (maxI ns).map .int := by
  show (intsOf (ns.map PyData.int)).bind _ = _
  rw [ints_map]
  rfl
theorem gd_int {i : Int} (h0 : 0 ≤ i) (h1 : i < 1000) : Gd 0 10 (.int i) := by
  obtain ⟨n, hn⟩ := Int.eq_ofNat_of_zero_le h0
  rw [hn]
  exact gd_nat (by omega)
theorem ne_ints {ns : List Int} (h : ∀ n ∈ ns, 0 ≤ n ∧ n < 1000) : neD (.list (ns.map PyData.int)) (.list []) = some (.bool (!ns.isEmpty)) := by
  have s1 := (gd_list (k := 0) (W := 10) (ds := ns.map PyData.int) fun d hd => by
    obtain ⟨g, h1, rfl⟩ := List.mem_map.mp hd
    exact gd_int (h g h1).1 (h g h1).2).shp (by decide)
  have : eqOk (.list (ns.map PyData.int)) (.list []) = true := by
    unfold eqOk
    rw [s1]
    simp
    exact .inr rfl
  unfold neD
  rw [if_pos this]
  cases ns <;> rfl
theorem ok_price {r : Ru} (h : okR r = true) : 0 ≤ r.p ∧ r.p < 1000 := by
  simp only [okR, Bool.and_eq_true, decide_eq_true_eq] at h
  omega
theorem costs_ok {rs : List Ru} {c : Ca} (h : ∀ r ∈ rs, okR r = true) : ∀ n ∈ costs rs c, 0 ≤ n ∧ n < 1000 := fun n hn => by
  obtain ⟨r, hr, rfl⟩ := List.mem_map.mp hn
  exact ok_price (h r (List.mem_filter.mp hr).1)
theorem costs_len {rs : List Ru} {c : Ca} : (costs rs c).length ≤ rs.length := by
  unfold costs
  rw [List.length_map]
  exact List.length_filter_le _ _
theorem price_there_at {rs : List Ru} {c : Ca} (h : okBo rs) : fprice_there [.im (boD rs), .im (caD c)] = .ok (.im (optD (minI (costs rs c)))) [.im (boD rs), .im (caD c)] := by
  have hl := h.2
  apply wpR_eq
  unfold fprice_there
  refine wpR_def rfl ?_
  simp [gprice_there, args0, boD]
  refine comp_all (fun r => fits r c) (fun r => .int r.p) rfl rfl rfl (by omega) (fun r hr => ?_) ?_
  · have := fits_at (r := r) (c := c)
    simp [this, wipeE]
    cases hf : fits r c <;> simp [ruD, imAt, wipeE]
  · rw [show ((rs.filter fun r => fits r c).map fun r => PyData.int r.p) = (costs rs c).map PyData.int by simp [costs]]
    have e1 := ne_ints (costs_ok (c := c) h.1)
    have e2 := min_ints (costs rs c)
    cases hc : costs rs c with
    | nil =>
      rw [hc] at e1
      simp [minI, optD] at e1 ⊢
      simp [e1]
    | cons n ns =>
      rw [hc] at e1 e2
      simp only [List.map_cons] at e1 e2
      simp [e1, e2, minI, optD]
theorem price_at {rs : List Ru} {c : Ca} (h : okBo rs) (hc : okC c = true) : fprice [.im (boD rs), .im (caD c)] = .ok (.im (optD (minI (costs rs c)))) [.im (boD rs), .im (caD c)] := by
  have e1 := need_book_at h
  have e2 := need_case_at hc
  have e3 := price_there_at (c := c) h
  apply wpR_eq
  unfold fprice
  refine wpR_def rfl ?_
  simp [gprice, args0, e1, e2, e3]
/-! ### books put together -/
def onceF {α : Type} [DecidableEq α] (acc : List α) : List α → List α
  | [] => acc
  | r :: rs => onceF (if r ∈ acc then acc else acc ++ [r]) rs
def onceR (rs : List Ru) : List Ru := onceF [] rs
theorem onceF_mem {α : Type} [DecidableEq α] : ∀ (rs acc : List α) (x : α), x ∈ onceF acc rs ↔ x ∈ acc ∨ x ∈ rs
  | [], acc, x => by simp [onceF]
  | r :: rs, acc, x => by
    rw [onceF, onceF_mem rs]
    by_cases h : r ∈ acc
    · rw [if_pos h]
      constructor
      · rintro (z | z)
        · exact .inl z
        · exact .inr (List.mem_cons_of_mem _ z)
      · rintro (z | z)
        · exact .inl z
        · rcases List.mem_cons.mp z with z | z
          · rw [z]; exact .inl h
          · exact .inr z
    · rw [if_neg h]; simp [or_assoc]
theorem onceF_len {α : Type} [DecidableEq α] : ∀ (rs acc : List α), (onceF acc rs).length ≤ acc.length + rs.length
  | [], acc => by simp [onceF]
  | r :: rs, acc => by
    rw [onceF]
    have := onceF_len rs (if r ∈ acc then acc else acc ++ [r])
    have h2 : (if r ∈ acc then acc else acc ++ [r]).length ≤ acc.length + 1 := by split <;> simp
    rw [List.length_cons]
    omega
theorem onceR_mem {rs : List Ru} {x : Ru} : x ∈ onceR rs ↔ x ∈ rs := by unfold onceR; rw [onceF_mem]; simp
theorem onceR_len (rs : List Ru) : (onceR rs).length ≤ rs.length := by have := onceF_len rs []; simpa [onceR] using this
theorem onceR_ok {rs : List Ru} (h : ∀ r ∈ rs, okR r = true) (hl : rs.length ≤ 80) : okBo (onceR rs) := ⟨fun r hr => h r (onceR_mem.mp hr), Nat.le_trans (onceR_len rs) hl⟩
theorem nin_rus {v : Ru} {gs : List Ru} (hv : okR v = true) (hg : ∀ g ∈ gs, okR g = true) : ninPD (ruD v) (.list (gs.map ruD)) = some (.bool (!decide (v ∈ gs))) := by
  have h := in_rus hv hg
  have e : inA (ruD v) (.list (gs.map ruD)) = (if inOk (ruD v) (gs.map ruD) then some (memD (ruD v) (gs.map ruD)) else none).map .bool := rfl
  have e2 : ninPD (ruD v) (.list (gs.map ruD)) = if inOk (ruD v) (gs.map ruD) then some (.bool (!memD (ruD v) (gs.map ruD))) else none := rfl
  rw [e] at h
  rw [e2]
  split at h
  · rename_i z
    rw [if_pos z]
    simp only [Option.map_some, Option.some.injEq, PyData.bool.injEq] at h
    rw [h]
  · cases h
theorem toD_ims {ds : List D} : (M.ls (ds.map .im)).toD = some (.list ds) := by
  show (imAll (ds.map .im)).map _ = _
  rw [imAll_im]
  rfl
theorem toD_rus (rs : List Ru) : (M.ls (rs.map fun r => .im (ruD r))).toD = some (.list (rs.map ruD)) := by
  have := toD_ims (ds := rs.map ruD)
  rwa [List.map_map] at this
/-- like ones once, of a list or a tuple of rules -/
theorem each_once_at {rs : List Ru} {d : D} (hd : itX d = some (rs.map ruD)) (h : ∀ r ∈ rs, okR r = true) (hl : rs.length ≤ 80) : feach_once [.im d] = .ok (.im (boD (onceR rs))) [.im d] := by
  apply wpR_eq
  unfold feach_once
  refine wpR_def rfl ?_
  simp [geach_once, args0, hd]
  refine for_inv (fun done e => (∀ r ∈ done, r ∈ rs) ∧ done.length ≤ rs.length ∧ ∃ x, e = [some (.im d), some (.ls ((onceR done).map fun r => .im (ruD r))), x]) ⟨by simp, by simp, none, rfl⟩ ?_ ?_
  · rintro done r rest e hs ⟨h1, h2, x, rfl⟩
    have hr : r ∈ rs := by rw [hs]; simp
    have hd2 : ∀ g ∈ onceR done, okR g = true := fun g hg => h g (h1 g (onceR_mem.mp hg))
    have n1 := nin_rus (h r hr) hd2
    have t1 := toD_rus (onceR done)
    have hlen := onceR_len done
    have e3 : onceR (done ++ [r]) = if r ∈ onceR done then onceR done else onceR done ++ [r] := by
      have : ∀ (l acc : List Ru), onceF acc (l ++ [r]) = (if r ∈ onceF acc l then onceF acc l else onceF acc l ++ [r]) := by
        intro l
        induction l with
        | nil => intro acc; rfl
        | cons a l ih => intro acc; exact ih _
      exact this done []
    have hs2 : done.length + 1 ≤ rs.length := by rw [hs]; simp
    simp [has, peekD, t1, n1]
    by_cases hm : r ∈ onceR done
    · rw [if_pos hm] at e3
      simp [hm, e3]
      exact ⟨fun g hg => hg.elim (h1 g) (fun z => z ▸ hr), hs2⟩
    · rw [if_neg hm] at e3
      simp [hm, e3, isLs]
      refine ⟨by omega, fun g hg => hg.elim (h1 g) (fun z => z ▸ hr), hs2⟩
  · rintro e ⟨h1, h2, x, rfl⟩
    have t1 := toD_rus (onceR rs)
    have hlen := onceR_len rs
    have h80 : ¬ (80 : Int) < ((onceR rs).length : Int) := by omega
    simp [has, peekD, t1, h80, boD]
end FDL

namespace FDL
open PySem L2 FD
theorem either_at {a b : List Ru} (ha : okBo a) (hb : okBo b) (hl : a.length + b.length ≤ 80) : feither [.im (boD a), .im (boD b)] = .ok (.im (boD (onceR (a ++ b)))) [.im (boD a), .im (boD b)] := by
  have e1 := need_book_at ha
  have e2 := need_book_at hb
  have e3 := each_once_at (rs := a ++ b) (d := boD (a ++ b)) rfl (fun r hr => (List.mem_append.mp hr).elim (ha.1 r) (hb.1 r)) (by simp; exact hl)
  apply wpR_eq
  unfold feither
  refine wpR_def rfl ?_
  simp [geither, args0, e1, e2, e3]
  omega
/-! ### both -/
def smet (x y : Nat) : Option Nat := if (x == y || 42 == y) = true then some x else if x = 42 then some y else none
def smD : Option Nat → D
  | none => .none
  | some c => .str (sg c)
theorem sides_met_at {x y : Nat} : fsides_met [.im (.str (sg x)), .im (.str (sg y))] = .ok (.im (smD (smet x y))) [.im (.str (sg x)), .im (.str (sg y))] := by
  apply wpR_eq
  unfold fsides_met
  refine wpR_def rfl ?_
  unfold smet
  by_cases h : (x == y || 42 == y) = true
  · simp only [h, if_true]
    simp [gsides_met, args0, star_sg, h, smD]
  · rw [Bool.not_eq_true] at h
    by_cases h2 : x = 42
    · simp [gsides_met, args0, star_sg, h, smD, h2]
      simp [h2] at h
      have h3 : (42 == y) = false := by simpa using h
      simp [h3, h]
    · have h3 : (x == 42) = false := by simpa using h2
      simp [gsides_met, args0, star_sg, h, smD, h2, h3]
theorem nin_none {u v : Option Nat} : ninA .none (.tuple [smD u, smD v]) = some (.bool (u.isSome && v.isSome)) := by
  cases u <;> cases v <;> rfl
def maxP (i j : Int) : Int := if j > i then j else i
@[simp] theorem max2 {i j : Int} : maxD [.int i, .int j] = some (.int (maxP i j)) := rfl
def metR (r s : Ru) : Option Ru := if r.l = s.l then (match smet r.a s.a, smet r.b s.b with
  | some x, some y => some ⟨x, r.l, y, maxP r.p s.p⟩
  | _, _ => none) else none
def bothR (a b : List Ru) : List Ru := a.flatMap fun r => b.filterMap (metR r)
@[simp] theorem ix20 {a b : D} : ixA (.tuple [a, b]) (.int 0) = some a := rfl
@[simp] theorem ix21 {a b : D} : ixA (.tuple [a, b]) (.int 1) = some b := rfl
theorem smet_ok {P : Nat → Prop} {x y z : Nat} (hx : P x) (hy : P y) (h : smet x y = some z) : P z := by
  unfold smet at h
  split at h
  · cases h; exact hx
  · split at h
    · cases h; exact hy
    · cases h
theorem metR_ok {r s t : Ru} (hr : okR r = true) (hs : okR s = true) (h : metR r s = some t) : okR t = true := by
  unfold metR at h
  split at h
  · split at h
    · rename_i x y h1 h2
      cases h
      simp only [okR, Bool.and_eq_true, decide_eq_true_eq] at hr hs ⊢
      obtain ⟨⟨⟨r1, r2⟩, r3⟩, r4, r5⟩ := hr
      obtain ⟨⟨⟨s1, s2⟩, s3⟩, s4, s5⟩ := hs
      refine ⟨⟨⟨smet_ok (P := fun x => okA x = true) r1 s1 h1, r2⟩, smet_ok (P := fun x => okB x = true) r3 s3 h2⟩, ?_, ?_⟩
      · unfold maxP; split <;> assumption
      · unfold maxP; split <;> assumption
    · cases h
  · cases h
theorem bothR_ok {a b : List Ru} (ha : ∀ r ∈ a, okR r = true) (hb : ∀ r ∈ b, okR r = true) : ∀ r ∈ bothR a b, okR r = true := fun t ht => by
  obtain ⟨r, hr, h1⟩ := List.mem_flatMap.mp ht
  obtain ⟨s, hs, h2⟩ := List.mem_filterMap.mp h1
  exact metR_ok (ha r hr) (hb s hs) h2
theorem bothR_len (a b : List Ru) : (bothR a b).length ≤ a.length * b.length := by
  unfold bothR
  induction a with
  | nil => simp
  | cons r a ih =>
    rw [List.flatMap_cons, List.length_append, List.length_cons, Nat.add_mul, Nat.one_mul]
    have := List.length_filterMap_le (metR r) b
    omega
theorem both_at {a b : List Ru} (ha : okBo a) (hb : okBo b) (hl : a.length * b.length ≤ 80) : fboth [.im (boD a), .im (boD b)] = .ok (.im (boD (onceR (bothR a b)))) [.im (boD a), .im (boD b)] := by
  have e1 := need_book_at ha
  have e2 := need_book_at hb
  have bl := bothR_len a b
  apply wpR_eq
  unfold fboth
  refine wpR_def rfl ?_
  simp [gboth, args0, e1, e2]
  refine for_inv (em := ruD) (fun done e => ∃ x3 x4 x5 x6 x7 x8 x9 x10 x11, e = [some (.im (boD a)), some (.im (boD b)), some (.ls ((bothR done b).map fun r => .im (ruD r))), x3, x4, x5, x6, x7, x8, x9, x10, x11]) ⟨_, _, _, _, _, _, _, _, _, rfl⟩ ?_ ?_
  · rintro done r rest e hs ⟨x3, x4, x5, x6, x7, x8, x9, x10, x11, rfl⟩
    have hr : r ∈ a := by rw [hs]; simp
    simp
    refine for_inv (em := ruD) (fun d2 e => ∃ x7 x8 x9 x10 x11, e = [some (.im (boD a)), some (.im (boD b)), some (.ls ((bothR done b ++ d2.filterMap (metR r)).map fun r => .im (ruD r))), some (.im (.str (sg r.a))), some (.im (.str (sg r.l))), some (.im (.str (sg r.b))), some (.im (.int r.p)), x7, x8, x9, x10, x11]) ⟨x7, x8, x9, x10, x11, by simp⟩ ?_ ?_
    · rintro d2 s rest2 e hs2 ⟨x7, x8, x9, x10, x11, rfl⟩
      have m1 := sides_met_at (x := r.a) (y := s.a)
      have m2 := sides_met_at (x := r.b) (y := s.b)
      have n1 := nin_none (u := smet r.a s.a) (v := smet r.b s.b)
      have hlen : (bothR done b ++ d2.filterMap (metR r)).length ≤ 80 := by
        have h1 := bothR_len done b
        have h2 := List.length_filterMap_le (metR r) d2
        have h3 : d2.length ≤ b.length := by rw [hs2]; simp
        have h4 : (done.length + 1) * b.length ≤ a.length * b.length := Nat.mul_le_mul_right _ (by rw [hs]; simp)
        rw [Nat.add_mul, Nat.one_mul] at h4
        rw [List.length_append]
        omega
      simp [m1, m2, n1]
      by_cases hq : r.l = s.l
      · simp [hq, n1]
        cases h1 : smet r.a s.a with
        | none => simp [metR, hq, h1, smD]
        | some x =>
          cases h2 : smet r.b s.b with
          | none => simp [metR, hq, h1, h2, smD]
          | some y =>
            simp [metR, hq, h1, h2, smD, isLs]
            simp at hlen
            refine ⟨by omega, rfl⟩
      · have hq' : (r.l == s.l) = false := by simpa using hq
        simp [hq', metR, hq]
    · rintro e ⟨x7, x8, x9, x10, x11, rfl⟩
      simp [bothR]
  · rintro e ⟨x3, x4, x5, x6, x7, x8, x9, x10, x11, rfl⟩
    have t1 := toD_rus (bothR a b)
    have e3 := each_once_at (rs := bothR a b) (d := .list ((bothR a b).map ruD)) rfl (bothR_ok ha.1 hb.1) (by omega)
    simp [t1, e3]
end FDL

namespace FDL
open PySem L2 FD
/-! ### tables: in, walked -/
theorem getDD_tb {c : Ca} {tb : Tb} : getDD (tb.map fun q => (caD q.1, PyData.int q.2)) (caD c) = some ((lookK tb c).map PyData.int) := by
  have h : getDD (tb.map fun q => (caD q.1, PyData.int q.2)) (caD c) = (dictT (tb.map fun q => (caD q.1, PyData.int q.2))).map fun l => lookK l (caK c) := rfl
  rw [h, dictT_tb, Option.map_some, look_row]
@[simp] theorem in_tb {c : Ca} {tb : Tb} : inA (caD c) (tbD tb) = some (.bool (lookK tb c).isSome) := by
  show (getDD _ _).map _ = _
  rw [getDD_tb]
  simp
@[simp] theorem itX_tb {tb : Tb} : itX (tbD tb) = some (tb.map fun q => caD q.1) := by
  unfold tbD
  simp
@[simp] theorem len_tb {tb : Tb} : lenD [tbD tb] = some (.int tb.length) := by
  show some (PyData.int ((tb.map _).length : Nat)) = _
  rw [List.length_map]
theorem table_len (rs : List Ru) : (table rs).length ≤ rs.length * 729 := by
  have : ∀ (rs : List Ru) (tb : Tb), (rs.foldl putR tb).length ≤ tb.length + rs.length * 729 := by
    intro rs
    induction rs with
    | nil => intro tb; simp
    | cons r rs ih =>
      intro tb
      have h1 := ih (putR tb r)
      have h2 : (putR tb r).length ≤ tb.length + (casesOf r).length := putC_len _ _
      have h3 := cases_len r
      rw [List.foldl_cons, List.length_cons]
      omega
  unfold table
  simpa using this rs []
def within (a b : List Ru) : Bool := (table a).all fun q => (lookK (table b) q.1).isSome
theorem is_within_at {a b : List Ru} (ha : okBo a) (hb : okBo b) : fis_within [.im (boD a), .im (boD b)] = .ok (.im (.bool (within a b))) [.im (boD a), .im (boD b)] := by
  have t1 := two_tables_at ha hb
  have hl := table_len a
  have := ha.2
  apply wpR_eq
  unfold fis_within
  refine wpR_def rfl ?_
  simp [gis_within, args0, t1]
  refine comp_map (fun q => .bool (lookK (table b) q.1).isSome) rfl rfl rfl (by omega) (fun q hq => ?_) ?_
  · simp [wipeE, imAt]
  · have := all_bools ((table a).map fun q => (lookK (table b) q.1).isSome)
    rw [show ((table a).map fun q => (lookK (table b) q.1).isSome).all id = within a b by simp [within], List.map_map] at this
    have e : ((table a).map fun q => PyData.bool (lookK (table b) q.1).isSome) = (table a).map (PyData.bool ∘ fun q => (lookK (table b) q.1).isSome) := rfl
    rw [e]
    simp [this]
theorem within_iff {a b : List Ru} : within a b = true ↔ ∀ c, (best a c).isSome = true → (best b c).isSome = true := by
  unfold within
  rw [List.all_eq_true]
  constructor
  · intro h c hc
    obtain ⟨v, hv⟩ := Option.isSome_iff_exists.mp hc
    rw [← look_table] at hv ⊢
    exact h _ (lookK_in hv)
  · intro h q hq
    have := look_mem (table_nodup a [] (by simp)) (show (q.1, q.2) ∈ table a from hq)
    have h2 := h q.1 (by rw [← look_table]; show (lookK (table a) q.1).isSome = true; unfold table; rw [this]; rfl)
    rw [look_table]
    exact h2
/-! ### the law's own price -/
theorem cost_at {rs : List Ru} {c : Ca} (h : okBo rs) : f_law_cost [.im (boD rs), .im (caD c)] = .ok (.im (optD (minI (costs rs c)))) [.im (boD rs), .im (caD c)] := by
  have hl := h.2
  apply wpR_eq
  unfold f_law_cost
  refine wpR_def rfl ?_
  simp [g_law_cost, args0]
  refine for_inv (em := ruD) (fun done e => done.length ≤ rs.length ∧ ∃ x3 x4 x5 x6, e = [some (.im (boD rs)), some (.im (caD c)), some (.ls ((costs done c).map fun n => .im (.int n))), x3, x4, x5, x6]) ⟨by simp, _, _, _, _, rfl⟩ ?_ ?_
  · rintro done r rest e hs ⟨h1, x3, x4, x5, x6, rfl⟩
    have hr : r ∈ rs := by rw [hs]; simp
    have hs2 : done.length + 1 ≤ rs.length := by rw [hs]; simp
    have hcl := costs_len (rs := done) (c := c)
    have e3 : costs (done ++ [r]) c = costs done c ++ (if fits r c then [r.p] else []) := by
      unfold costs
      rw [List.filter_append, List.map_append]
      cases hf : fits r c <;> simp [hf]
    simp [star_sg]
    cases q1 : r.l == c.l with
    | false =>
      have hf : fits r c = false := by simp [fits, q1]
      simp [e3, hf]
      exact hs2
    | true =>
      simp
      cases q2 : (c.a == r.a || 42 == r.a) with
      | false =>
        have hf : fits r c = false := by simp [fits, q2]
        simp [e3, hf]
        exact hs2
      | true =>
        simp
        cases q3 : (c.b == r.b || 42 == r.b) with
        | false =>
          have hf : fits r c = false := by simp [fits, q3]
          simp [e3, hf]
          exact hs2
        | true =>
          have hf : fits r c = true := by simp [fits, q1, q2, q3]
          simp [e3, hf, isLs]
          omega
  · rintro e ⟨h1, x3, x4, x5, x6, rfl⟩
    have t1 : (M.ls ((costs rs c).map fun n => .im (.int n))).toD = some (.list ((costs rs c).map PyData.int)) := by
      have := toD_ims (ds := (costs rs c).map PyData.int)
      rwa [List.map_map] at this
    have e1 := ne_ints (costs_ok (c := c) h.1)
    have e2 := min_ints (costs rs c)
    cases hc : costs rs c with
    | nil =>
      rw [hc] at e1 t1
      simp [minI, optD] at e1 t1 ⊢
      simp [has, peekD, e1, t1]
    | cons n ns =>
      rw [hc] at e1 e2 t1
      simp only [List.map_cons] at e1 e2 t1
      simp [has, peekD, e1, e2, t1, minI, optD]
/-! ### the law's own books -/
def lmD : Option Nat → D
  | none => .str ""
  | some c => .str (sg c)
theorem met_at {x y : Nat} : f_law_met [.im (.str (sg x)), .im (.str (sg y))] = .ok (.im (lmD (smet x y))) [.im (.str (sg x)), .im (.str (sg y))] := by
  apply wpR_eq
  unfold f_law_met
  refine wpR_def rfl ?_
  unfold smet
  by_cases h1 : y = 42
  · subst h1
    simp [g_law_met, args0, star_sg, lmD]
  · have h1' : (y == 42) = false := by simpa using h1
    have h1'' : (42 == y) = false := by simpa using Ne.symm h1
    by_cases h2 : x = 42
    · subst h2
      simp [g_law_met, args0, star_sg, lmD, h1', h1'', Ne.symm h1]
    · have h2' : (x == 42) = false := by simpa using h2
      by_cases h3 : x = y
      · subst h3
        simp [g_law_met, args0, star_sg, lmD, h1', h1'']
      · have h3' : (x == y) = false := by simpa using h3
        simp [g_law_met, args0, star_sg, lmD, h1', h1'', h2, h2', h3, h3', Ne.symm h1]
theorem once_plain {α : Type} [DecidableEq α] : ∀ (rs p acc : List α), (∀ x, x ∈ acc ↔ x ∈ p) → onceF acc rs = acc ++ ((rs.zipIdx p.length).filter fun q => !decide (q.1 ∈ (p ++ rs).take q.2)).map (·.1)
  | [], p, acc, _ => by simp [onceF]
  | r :: rs, p, acc, h => by
    have ih := once_plain rs (p ++ [r]) (if r ∈ acc then acc else acc ++ [r]) (fun x => by
      by_cases hr : r ∈ acc
      · rw [if_pos hr, h, List.mem_append, List.mem_singleton]
        constructor
        · exact .inl
        · rintro (z | z)
          · exact z
          · rw [z]; exact (h r).mp hr
      · rw [if_neg hr, List.mem_append, List.mem_append, h])
    rw [onceF, ih, List.zipIdx_cons, List.filter_cons]
    have t1 : (p ++ r :: rs).take p.length = p := by simp
    have t2 : p ++ [r] ++ rs = p ++ r :: rs := by simp
    rw [t2, List.length_append, List.length_singleton]
    by_cases hr : r ∈ acc
    · have hp := (h r).mp hr
      simp [hr, t1, hp]
    · have hp : r ∉ p := fun z => hr ((h r).mpr z)
      simp [hr, t1, hp]
theorem ninA_rus {v : Ru} {gs : List Ru} (hv : okR v = true) (hg : ∀ g ∈ gs, okR g = true) : ninA (ruD v) (.list (gs.map ruD)) = some (.bool (!decide (v ∈ gs))) := by
  have h := in_rus hv hg
  have e : inA (ruD v) (.list (gs.map ruD)) = (inB (ruD v) (.list (gs.map ruD))).map .bool := rfl
  have e2 : ninA (ruD v) (.list (gs.map ruD)) = (inB (ruD v) (.list (gs.map ruD))).map fun k => .bool (!k) := rfl
  rw [e] at h
  rw [e2]
  obtain ⟨k, hk, hb⟩ := Option.map_eq_some_iff.mp h
  rw [hk]
  simp only [PyData.bool.injEq] at hb
  rw [hb]
  rfl
theorem enum_rus (rs : List Ru) : enumDs (rs.map ruD) = rs.zipIdx.map fun q => PyData.tuple [.int (q.2 : Nat), ruD q.1] := by
  unfold enumDs
  rw [List.zipIdx_map, List.map_map]
  rfl
theorem sl_hiL {ds : List D} {n : Nat} : slD (.list ds) none (some (n : Int)) = some (.list (ds.take n)) := by
  simp only [slD, cut_hi]
theorem once_at {rs : List Ru} (h : ∀ r ∈ rs, okR r = true) (hl : rs.length ≤ 1000) : f_law_once [.im (.list (rs.map ruD))] = .ok (.im (boD (onceR rs))) [.im (.list (rs.map ruD))] := by
  apply wpR_eq
  unfold f_law_once
  refine wpR_def rfl ?_
  simp [g_law_once, args0, enA, enum_rus]
  refine comp_all (fun q => !decide (q.1 ∈ rs.take q.2)) (fun q => ruD q.1) rfl rfl rfl (by simp; omega) (fun q hq => ?_) ?_
  · have hr : q.1 ∈ rs := List.fst_mem_of_mem_zipIdx hq
    have n1 := ninA_rus (v := q.1) (gs := rs.take q.2) (h _ hr) fun g hg => h g (List.mem_of_mem_take hg)
    have s1 := sl_hiL (ds := rs.map ruD) (n := q.2)
    rw [List.map_take] at n1
    simp [wipeE, s1, n1]
    by_cases hm : q.1 ∈ rs.take q.2 <;> simp [hm, imAt, wipeE]
  · have e1 := once_plain rs [] [] (by simp)
    have e2 : ((rs.zipIdx.filter fun q => !decide (q.1 ∈ rs.take q.2)).map fun q => ruD q.1) = (onceR rs).map ruD := by
      unfold onceR
      rw [e1]
      simp
    rw [e2]
    simp [boD]
theorem nin_empty {u v : Option Nat} {l : Nat} {p : Int} : ninA (.str "") (.tuple [lmD u, .str (sg l), lmD v, .int p]) = some (.bool (u.isSome && v.isSome)) := by
  have hs : ∀ c, (sg c == ("" : Str)) = false := fun c => by
    rw [beq_eq_false_iff_ne]
    intro h
    have h2 : (sg c).cps.size = ("" : Str).cps.size := by rw [h]
    have h3 : ("" : Str).cps.size = 0 := by rfl
    rw [h3] at h2
    simp [sg] at h2
  have e : ninA (.str "") (.tuple [lmD u, .str (sg l), lmD v, .int p]) = if inTOk (.str "") [lmD u, .str (sg l), lmD v, .int p] then some (.bool (!memD (.str "") [lmD u, .str (sg l), lmD v, .int p])) else none := by
    show (inB _ _).map _ = _
    simp only [inB]
    split <;> rfl
  rw [e]
  cases u <;> cases v <;> simp [inTOk, flatAll, flatD, lmD, memD, PyData.eqv, hs]
theorem both_due_at {a b : List Ru} (ha : okBo a) (hb : okBo b) (hl : a.length * b.length ≤ 80) : f_law_both_due [.im (boD a), .im (boD b)] = .ok (.im (boD (onceR (bothR a b)))) [.im (boD a), .im (boD b)] := by
  have bl := bothR_len a b
  apply wpR_eq
  unfold f_law_both_due
  refine wpR_def rfl ?_
  simp [g_law_both_due, args0]
  refine for_inv (em := ruD) (fun done e => ∃ x3 x4 x5, e = [some (.im (boD a)), some (.im (boD b)), some (.ls ((bothR done b).map fun r => .im (ruD r))), x3, x4, x5]) ⟨_, _, _, rfl⟩ ?_ ?_
  · rintro done r rest e hs ⟨x3, x4, x5, rfl⟩
    have hr : r ∈ a := by rw [hs]; simp
    simp
    refine for_inv (em := ruD) (fun d2 e => ∃ x4 x5, e = [some (.im (boD a)), some (.im (boD b)), some (.ls ((bothR done b ++ d2.filterMap (metR r)).map fun r => .im (ruD r))), some (.im (ruD r)), x4, x5]) ⟨x4, x5, by simp⟩ ?_ ?_
    · rintro d2 s rest2 e hs2 ⟨x4, x5, rfl⟩
      have m1 := met_at (x := r.a) (y := s.a)
      have m2 := met_at (x := r.b) (y := s.b)
      have n1 := nin_empty (u := smet r.a s.a) (v := smet r.b s.b) (l := r.l) (p := maxP r.p s.p)
      have hlen : (bothR done b ++ d2.filterMap (metR r)).length ≤ 80 := by
        have h1 := bothR_len done b
        have h2 := List.length_filterMap_le (metR r) d2
        have h3 : d2.length ≤ b.length := by rw [hs2]; simp
        have h4 : (done.length + 1) * b.length ≤ a.length * b.length := Nat.mul_le_mul_right _ (by rw [hs]; simp)
        rw [Nat.add_mul, Nat.one_mul] at h4
        rw [List.length_append]
        omega
      simp [m1, m2]
      by_cases hq : r.l = s.l
      · rw [hq] at n1
        simp [hq, n1]
        cases h1 : smet r.a s.a with
        | none => simp [metR, hq, h1]
        | some x =>
          cases h2 : smet r.b s.b with
          | none => simp [metR, hq, h1, h2]
          | some y =>
            simp [metR, hq, h1, h2, lmD, isLs]
            simp at hlen
            refine ⟨by omega, rfl⟩
      · have hq' : (r.l == s.l) = false := by simpa using hq
        simp [hq', metR, hq]
    · rintro e ⟨x4, x5, rfl⟩
      simp [bothR]
  · rintro e ⟨x3, x4, x5, rfl⟩
    have t1 := toD_rus (bothR a b)
    have e3 := once_at (rs := bothR a b) (bothR_ok ha.1 hb.1) (by omega)
    simp [t1, e3]
end FDL

namespace FDL
open PySem L2 FD
/-! ### all cases of some letters -/
def sgD (c : Nat) : D := .str (sg c)
def codeS (s : Str) : Nat := s.cps.getD 0 0
theorem code_sg (c : Nat) : codeS (sg c) = c := rfl
theorem strs_sg (cs : List Nat) : strsOf (cs.map fun c => PyData.str (sg c)) = some (cs.map sg) := by
  induction cs with
  | nil => rfl
  | cons c cs ih =>
    show (strsOf (cs.map fun c => PyData.str (sg c))).map (sg c :: ·) = _
    rw [ih]
    rfl
theorem srt_sg (cs : List Nat) : ∃ ss : List Nat, ss.Perm cs ∧ srtS (cs.map sg) = ss.map sg := by
  have p : (srtS (cs.map sg)).Perm (cs.map sg) := List.mergeSort_perm _ _
  refine ⟨(srtS (cs.map sg)).map codeS, ?_, ?_⟩
  · have := p.map codeS
    rw [List.map_map] at this
    rw [show (codeS ∘ sg) = id by funext c; rfl, List.map_id] at this
    exact this
  · rw [List.map_map]
    have : ∀ s ∈ srtS (cs.map sg), (sg ∘ codeS) s = s := fun s hs => by
      obtain ⟨c, _, rfl⟩ := List.mem_map.mp (p.mem_iff.mp hs)
      rfl
    rw [List.map_congr_left this, List.map_id']
theorem sorted_sg {cs : List Nat} (h : cs.length < 64) : ∃ ss : List Nat, ss.Perm cs ∧ sortedD [sgsD cs] = some (sgsD ss) := by
  obtain ⟨ss, p, e⟩ := srt_sg cs
  refine ⟨ss, p, ?_⟩
  show (match strsOf (cs.map fun c => PyData.str (sg c)) with
    | some xs => if decide (xs.length < 64) then some (PyData.list ((srtS xs).map .str)) else none
    | none => _) = _
  rw [strs_sg]
  simp only
  rw [if_pos (by simp; exact h), e, List.map_map]
  rfl
def triosOf (ss : List Nat) : List Ca := (60 :: ss).flatMap fun a => ss.flatMap fun l => (62 :: ss).map fun b => ⟨a, l, b⟩
@[simp] theorem itX_sgs {cs : List Nat} : itX (sgsD cs) = some (cs.map fun c => .str (sg c)) := rfl
@[simp] theorem add_sgs {c : Nat} {cs : List Nat} : addD (.list [.str (sg c)]) (sgsD cs) = if few (1 + cs.length) then some (sgsD (c :: cs)) else none := by
  unfold sgsD; simp
theorem trios_len {ss done : List Nat} : (done.flatMap fun a => ss.flatMap fun l => (62 :: ss).map fun b => (⟨a, l, b⟩ : Ca)).length = done.length * (ss.length * (ss.length + 1)) := by
  induction done with
  | nil => simp
  | cons a done ih =>
    rw [List.flatMap_cons, List.length_append, ih, List.length_cons, Nat.add_mul, Nat.one_mul]
    have : ∀ l : List Nat, (l.flatMap fun l => (62 :: ss).map fun b => (⟨a, l, b⟩ : Ca)).length = l.length * (ss.length + 1) := by
      intro l
      induction l with
      | nil => simp
      | cons x l ih => rw [List.flatMap_cons, List.length_append, ih, List.length_cons, Nat.add_mul, Nat.one_mul]; simp; omega
    rw [this ss]
    omega
theorem trios_at {cs : List Nat} (hl : cs.length ≤ 10) : ∃ ss : List Nat, ss.Perm cs ∧ f_law_trios [.im (sgsD cs)] = .ok (.im (.list ((triosOf ss).map caD))) [.im (sgsD cs)] := by
  obtain ⟨ss, p, e1⟩ := sorted_sg (cs := cs) (by omega)
  have hss : ss.length ≤ 10 := by rw [p.length_eq]; exact hl
  have tl : ∀ done : List Nat, done.length ≤ 11 → (done.flatMap fun a => ss.flatMap fun l => (62 :: ss).map fun b => (⟨a, l, b⟩ : Ca)).length ≤ 1210 := fun done hd => by
    rw [trios_len]
    calc done.length * (ss.length * (ss.length + 1)) ≤ 11 * (10 * 11) := Nat.mul_le_mul hd (Nat.mul_le_mul hss (by omega))
      _ = 1210 := rfl
  refine ⟨ss, p, ?_⟩
  apply wpR_eq
  unfold f_law_trios
  refine wpR_def rfl ?_
  simp [g_law_trios, args0, e1, first_sg, last_sg]
  refine ⟨by omega, ?_⟩
  refine for_inv (em := fun c => PyData.str (sg c)) (as := 60 :: ss) (fun done e => done.length ≤ 11 ∧ ∃ x1 x4, e = [some (.im (sgsD cs)), x1, some (.im (sgsD ss)), some (.ls ((done.flatMap fun a => ss.flatMap fun l => (62 :: ss).map fun b => (⟨a, l, b⟩ : Ca)).map fun c => .im (caD c))), x4, none]) ⟨by simp, none, none, rfl⟩ ?_ ?_
  · rintro done a rest e hs ⟨h1, x1, x4, rfl⟩
    have hd : done.length + 1 ≤ 11 := by
      have := congrArg List.length hs
      simp at this
      omega
    have t1 := tl (done ++ [a]) (by simp; omega)
    simp
    refine for_inv (em := fun c => PyData.str (sg c)) (as := ss) (fun d2 e => ∃ x4, e = [some (.im (sgsD cs)), some (.im (.str (sg a))), some (.im (sgsD ss)), some (.ls (((done.flatMap fun a => ss.flatMap fun l => (62 :: ss).map fun b => (⟨a, l, b⟩ : Ca)) ++ d2.flatMap fun l => (62 :: ss).map fun b => (⟨a, l, b⟩ : Ca)).map fun c => .im (caD c))), x4, none]) ⟨x4, by simp⟩ ?_ ?_
    · rintro d2 l rest2 e hs2 ⟨x4, rfl⟩
      simp [isLs]
      refine ⟨by omega, ?_⟩
      refine compM_map (em := fun c => PyData.str (sg c)) (as := 62 :: ss) (fun b => caD ⟨a, l, b⟩) rfl rfl rfl (by simp; omega) (fun b hb => ?_) ?_
      · simp [wipeE, imAt, caD]
      · have t2 : ((done.flatMap fun a => ss.flatMap fun l => (62 :: ss).map fun b => (⟨a, l, b⟩ : Ca)) ++ d2.flatMap fun l => (62 :: ss).map fun b => (⟨a, l, b⟩ : Ca)).length + (ss.length + 1) ≤ 1210 := by
          rw [List.flatMap_append, List.length_append] at t1
          rw [List.length_append]
          have : ((d2 ++ l :: rest2).flatMap fun l => (62 :: ss).map fun b => (⟨a, l, b⟩ : Ca)).length = ([a].flatMap fun a => ss.flatMap fun l => (62 :: ss).map fun b => (⟨a, l, b⟩ : Ca)).length := by
            rw [← hs2]; simp
          rw [List.flatMap_append, List.length_append, List.flatMap_cons, List.length_append] at this
          have h9 : ((62 :: ss).map fun b => (⟨a, l, b⟩ : Ca)).length = ss.length + 1 := by simp
          omega
        simp only [kExt_at]
        simp
        simp at t2
        omega
    · rintro e ⟨x4, rfl⟩
      simp
      omega
  · rintro e ⟨h1, x1, x4, rfl⟩
    have t1 : (M.ls ((triosOf ss).map fun c => .im (caD c))).toD = some (.list ((triosOf ss).map caD)) := by
      have := toD_ims (ds := (triosOf ss).map caD)
      rwa [List.map_map] at this
    unfold triosOf at t1 ⊢
    simp at t1 ⊢
    simp [t1]
end FDL

namespace FDL
open PySem L2 FD
/-! ### least prices, plainly -/
theorem fits_ok {o : Ru} {c : Ca} (hc : okC c = true) : fits o c = true ↔ c ∈ casesOf o := by
  simp only [okC, Bool.and_eq_true, Bool.or_eq_true, beq_iff_eq] at hc
  obtain ⟨⟨h1, h2⟩, h3⟩ := hc
  have n1 : c.a ≠ 42 := by rcases h1 with h | h; exact (let_ne h).1; omega
  have n3 : c.b ≠ 42 := by rcases h3 with h | h; exact (let_ne h).1; omega
  rw [mem_cases, side_iff n1 (h1.elim .inr fun h => .inl h.symm), side_iff n3 (h3.elim .inr fun h => .inl h.symm)]
  unfold fits
  rw [Bool.and_eq_true, Bool.and_eq_true, beq_iff_eq]
  constructor
  · rintro ⟨a, b, d⟩; exact ⟨b, a.symm, d⟩
  · rintro ⟨a, b, d⟩; exact ⟨b.symm, a, d⟩
theorem minI_spec : ∀ l : List Int, (minI l = none ∧ l = []) ∨ ∃ v, minI l = some v ∧ v ∈ l ∧ ∀ x ∈ l, v ≤ x
  | [] => .inl ⟨rfl, rfl⟩
  | n :: ns => .inr ⟨_, rfl, (foldl_min_mem ns n).elim (fun e => by rw [e]; exact List.mem_cons_self) (List.mem_cons_of_mem _), fun x hx => (List.mem_cons.mp hx).elim (fun e => by rw [e]; exact (foldl_min_le ns n).1) ((foldl_min_le ns n).2 x)⟩
theorem cost_best {rs : List Ru} {c : Ca} (hc : okC c = true) : minI (costs rs c) = best rs c := by
  rcases minI_spec (costs rs c) with ⟨h1, h2⟩ | ⟨v, h1, h2, h3⟩
  · rw [h1]
    refine (best_eq_none fun r hr hm => ?_).symm
    have : r.p ∈ costs rs c := List.mem_map.mpr ⟨r, List.mem_filter.mpr ⟨hr, (fits_ok hc).mpr hm⟩, rfl⟩
    rw [h2] at this
    cases this
  · rw [h1]
    obtain ⟨r, hr, e⟩ := List.mem_map.mp h2
    obtain ⟨hr1, hr2⟩ := List.mem_filter.mp hr
    exact (best_eq_some ⟨r, hr1, (fits_ok hc).mp hr2, e⟩ fun s hs hm => h3 s.p (List.mem_map.mpr ⟨s, List.mem_filter.mpr ⟨hs, (fits_ok hc).mpr hm⟩, rfl⟩)).symm
def oMin : Option Int → Option Int → Option Int
  | none, y => y
  | x, none => x
  | some a, some b => some (min a b)
def oMax : Option Int → Option Int → Option Int
  | some a, some b => some (max a b)
  | _, _ => none
theorem best_congr {a b : List Ru} {c : Ca} (h : ∀ r, r ∈ a ↔ r ∈ b) : best a c = best b c := by
  cases hb : best b c with
  | none => exact best_eq_none fun r hr => best_none hb r ((h r).mp hr)
  | some v =>
    obtain ⟨⟨r, h1, h2⟩, h3⟩ := best_some hb
    exact best_eq_some ⟨r, (h r).mpr h1, h2⟩ fun s hs => h3 s ((h s).mp hs)
theorem best_once {rs : List Ru} {c : Ca} : best (onceR rs) c = best rs c := best_congr fun _ => onceR_mem
theorem best_app {a b : List Ru} {c : Ca} : best (a ++ b) c = oMin (best a c) (best b c) := by
  cases ha : best a c with
  | none =>
    have na := best_none ha
    cases hb : best b c with
    | none => exact best_eq_none fun r hr => (List.mem_append.mp hr).elim (na r) (best_none hb r)
    | some v =>
      obtain ⟨⟨r, h1, h2⟩, h3⟩ := best_some hb
      exact best_eq_some ⟨r, List.mem_append_right _ h1, h2⟩ fun s hs hm => (List.mem_append.mp hs).elim (fun z => absurd hm (na s z)) fun z => h3 s z hm
  | some u =>
    obtain ⟨⟨q, g1, g2, g4⟩, g3⟩ := best_some ha
    cases hb : best b c with
    | none =>
      have nb := best_none hb
      exact best_eq_some ⟨q, List.mem_append_left _ g1, g2, g4⟩ fun s hs hm => (List.mem_append.mp hs).elim (fun z => g3 s z hm) fun z => absurd hm (nb s z)
    | some v =>
      obtain ⟨⟨r, h1, h2, h4⟩, h3⟩ := best_some hb
      refine best_eq_some ?_ fun s hs hm => (List.mem_append.mp hs).elim (fun z => by have := g3 s z hm; omega) fun z => by have := h3 s z hm; omega
      by_cases hle : u ≤ v
      · exact ⟨q, List.mem_append_left _ g1, g2, by omega⟩
      · exact ⟨r, List.mem_append_right _ h1, h2, by omega⟩
theorem side_met {u v e x : Nat} (hu : isLet u = true ∨ u = e ∨ u = 42) (hv : isLet v = true ∨ v = e ∨ v = 42) : (∀ w, smet u v = some w → (x ∈ signsF w e ↔ x ∈ signsF u e ∧ x ∈ signsF v e)) ∧ (smet u v = none → ¬ (x ∈ signsF u e ∧ x ∈ signsF v e)) := by
  have me : ∀ {w : Nat}, (isLet w = true ∨ w = e ∨ w = 42) → w ≠ 42 → w ∈ e :: letters := fun {w} h n => by
    rcases h with h | h | h
    · exact List.mem_cons_of_mem _ (mem_letters.mpr h)
    · rw [h]; exact List.mem_cons_self
    · exact absurd h n
  unfold smet signsF
  by_cases h42 : v = 42
  · subst h42
    simp only [BEq.rfl, Bool.or_true, if_true]
    refine ⟨fun w hw => ?_, fun h => by cases h⟩
    cases hw
    by_cases hu2 : u = 42
    · simp [hu2]
    · rw [if_neg hu2]
      constructor
      · intro hx
        rw [List.mem_singleton] at hx
        exact ⟨by simp [hx], by rw [hx]; exact me hu hu2⟩
      · exact fun h => h.1
  · have h42' : (42 == v) = false := by simpa using Ne.symm h42
    rw [h42', Bool.or_false]
    by_cases huv : u = v
    · subst huv
      simp only [BEq.rfl, if_true]
      exact ⟨fun w hw => by cases hw; simp, fun h => by cases h⟩
    · have huv' : (u == v) = false := by simpa using huv
      simp only [huv', Bool.false_eq_true, if_false]
      by_cases hu2 : u = 42
      · simp only [hu2, if_true]
        refine ⟨fun w hw => ?_, fun h => by cases h⟩
        cases hw
        rw [if_neg h42]
        constructor
        · intro hx
          rw [List.mem_singleton] at hx
          exact ⟨by rw [hx]; exact me hv h42, by simp [hx]⟩
        · exact fun h => h.2
      · simp only [hu2, if_false]
        refine ⟨fun w hw => (by cases hw), fun _ hx => ?_⟩
        rw [if_neg h42] at hx
        simp only [List.mem_singleton] at hx
        exact huv (hx.1.symm.trans hx.2)
theorem met_cases {r s : Ru} {c : Ca} (hr : okR r = true) (hs : okR s = true) : (∀ t, metR r s = some t → (c ∈ casesOf t ↔ c ∈ casesOf r ∧ c ∈ casesOf s)) ∧ (metR r s = none → ¬ (c ∈ casesOf r ∧ c ∈ casesOf s)) := by
  obtain ⟨r1, r2⟩ := ok_sides hr
  obtain ⟨s1, s2⟩ := ok_sides hs
  have A := side_met (x := c.a) r1 s1
  have B := side_met (x := c.b) r2 s2
  rw [mem_cases, mem_cases]
  unfold metR
  by_cases hl : r.l = s.l
  · rw [if_pos hl]
    cases h1 : smet r.a s.a with
    | none =>
      refine ⟨fun t ht => (by cases ht), fun _ hx => A.2 h1 ⟨hx.1.1, hx.2.1⟩⟩
    | some x =>
      cases h2 : smet r.b s.b with
      | none => refine ⟨fun t ht => (by cases ht), fun _ hx => B.2 h2 ⟨hx.1.2.2, hx.2.2.2⟩⟩
      | some y =>
        refine ⟨fun t ht => ?_, fun h => (by cases h)⟩
        cases ht
        rw [mem_cases]
        show c.a ∈ signsF x 60 ∧ c.l = r.l ∧ c.b ∈ signsF y 62 ↔ _
        rw [A.1 x h1, B.1 y h2]
        constructor
        · rintro ⟨⟨a, b⟩, d, e, f⟩; exact ⟨⟨a, d, e⟩, b, d.trans hl, f⟩
        · rintro ⟨⟨a, d, e⟩, b, _, f⟩; exact ⟨⟨a, b⟩, d, e, f⟩
  · rw [if_neg hl]
    refine ⟨fun t ht => (by cases ht), fun _ hx => hl (hx.1.2.1.symm.trans hx.2.2.1)⟩
theorem metR_p {r s t : Ru} (h : metR r s = some t) : t.p = max r.p s.p := by
  unfold metR at h
  split at h
  · split at h
    · cases h
      show maxP r.p s.p = _
      unfold maxP
      split <;> omega
    · cases h
  · cases h
theorem mem_both {a b : List Ru} {t : Ru} : t ∈ bothR a b ↔ ∃ r ∈ a, ∃ s ∈ b, metR r s = some t := by
  unfold bothR
  rw [List.mem_flatMap]
  constructor
  · rintro ⟨r, hr, h⟩
    obtain ⟨s, hs, e⟩ := List.mem_filterMap.mp h
    exact ⟨r, hr, s, hs, e⟩
  · rintro ⟨r, hr, s, hs, e⟩
    exact ⟨r, hr, List.mem_filterMap.mpr ⟨s, hs, e⟩⟩
theorem best_both {a b : List Ru} {c : Ca} (ha : ∀ r ∈ a, okR r = true) (hb : ∀ r ∈ b, okR r = true) : best (bothR a b) c = oMax (best a c) (best b c) := by
  cases h1 : best a c with
  | none =>
    refine best_eq_none fun t ht hm => ?_
    obtain ⟨r, hr, s, hs, e⟩ := mem_both.mp ht
    exact best_none h1 r hr (((met_cases (ha r hr) (hb s hs)).1 t e).mp hm).1
  | some u =>
    cases h2 : best b c with
    | none =>
      refine best_eq_none fun t ht hm => ?_
      obtain ⟨r, hr, s, hs, e⟩ := mem_both.mp ht
      exact best_none h2 s hs (((met_cases (ha r hr) (hb s hs)).1 t e).mp hm).2
    | some v =>
      obtain ⟨⟨r, g1, g2, g4⟩, g3⟩ := best_some h1
      obtain ⟨⟨s, k1, k2, k4⟩, k3⟩ := best_some h2
      refine best_eq_some ?_ fun t ht hm => ?_
      · cases e : metR r s with
        | none => exact absurd ⟨g2, k2⟩ ((met_cases (ha r g1) (hb s k1)).2 e)
        | some t => exact ⟨t, mem_both.mpr ⟨r, g1, s, k1, e⟩, ((met_cases (ha r g1) (hb s k1)).1 t e).mpr ⟨g2, k2⟩, by rw [metR_p e, g4, k4]⟩
      · obtain ⟨r', hr, s', hs, e⟩ := mem_both.mp ht
        obtain ⟨z1, z2⟩ := ((met_cases (ha r' hr) (hb s' hs)).1 t e).mp hm
        have := g3 r' hr z1
        have := k3 s' hs z2
        rw [metR_p e]
        omega
/-! ### the lattice -/
theorem min_self (x : Option Int) : oMin x x = x := by cases x <;> simp [oMin]
theorem max_self (x : Option Int) : oMax x x = x := by cases x <;> simp [oMax]
theorem min_com (x y : Option Int) : oMin x y = oMin y x := by cases x <;> cases y <;> simp [oMin] <;> omega
theorem max_com (x y : Option Int) : oMax x y = oMax y x := by cases x <;> cases y <;> simp [oMax] <;> omega
theorem min_abs (x y : Option Int) : oMin x (oMax x y) = x := by cases x <;> cases y <;> simp [oMin, oMax] <;> omega
theorem max_abs (x y : Option Int) : oMax x (oMin x y) = x := by cases x <;> cases y <;> simp [oMin, oMax] <;> omega
theorem min_ass (x y z : Option Int) : oMin (oMin x y) z = oMin x (oMin y z) := by cases x <;> cases y <;> cases z <;> simp [oMin] <;> omega
theorem max_dis (x y z : Option Int) : oMax x (oMin y z) = oMin (oMax x y) (oMax x z) := by cases x <;> cases y <;> cases z <;> simp [oMin, oMax] <;> omega
theorem min_dis (x y z : Option Int) : oMin x (oMax y z) = oMax (oMin x y) (oMin x z) := by cases x <;> cases y <;> cases z <;> simp [oMin, oMax] <;> omega
end FDL

namespace FDL
open PySem L2 FD
/-! ### two books -/
def eiR (a b : List Ru) : List Ru := onceR (a ++ b)
def boR (a b : List Ru) : List Ru := onceR (bothR a b)
theorem eiR_ok {a b : List Ru} (ha : okBo a) (hb : okBo b) (hl : a.length + b.length ≤ 80) : okBo (eiR a b) := onceR_ok (fun r hr => (List.mem_append.mp hr).elim (ha.1 r) (hb.1 r)) (by simp; exact hl)
theorem boR_ok {a b : List Ru} (ha : okBo a) (hb : okBo b) (hl : a.length * b.length ≤ 80) : okBo (boR a b) := onceR_ok (bothR_ok ha.1 hb.1) (Nat.le_trans (bothR_len a b) hl)
theorem eiR_len (a b : List Ru) : (eiR a b).length ≤ a.length + b.length := by have := onceR_len (a ++ b); simpa [eiR] using this
theorem boR_len (a b : List Ru) : (boR a b).length ≤ a.length * b.length := Nat.le_trans (onceR_len _) (bothR_len a b)
theorem best_ei {a b : List Ru} {c : Ca} : best (eiR a b) c = oMin (best a c) (best b c) := best_once.trans best_app
theorem best_bo {a b : List Ru} {c : Ca} (ha : okBo a) (hb : okBo b) : best (boR a b) c = oMax (best a c) (best b c) := best_once.trans (best_both ha.1 hb.1)
theorem ne_opt {x : Option Int} : neD (optD x) (optD x) = some (.bool false) := by
  cases x with
  | none => rfl
  | some i =>
    show neD (.int i) (.int i) = _
    rw [neD_int]
    simp
theorem rep_two {a b : List Ru} (ha : okBo a) (hb : okBo b) : reprD [.list [boD a, boD b]] = some (.str (PyData.list [boD a, boD b]).shown) :=
  gd_list3 (fun d hd => by
    simp at hd
    rcases hd with h | h
    · rw [h]; exact gd_bo ha
    · rw [h]; exact gd_bo hb) (by simp)
theorem oks_trio {cs ss : List Nat} (hcs : ∀ x ∈ cs, isLet x = true) (p : ss.Perm cs) : ∀ c ∈ triosOf ss, okC c = true := fun c hc => by
  have hss : ∀ x ∈ ss, isLet x = true := fun x hx => hcs x (p.mem_iff.mp hx)
  unfold triosOf at hc
  obtain ⟨a, ha, h1⟩ := List.mem_flatMap.mp hc
  obtain ⟨l, hl, h2⟩ := List.mem_flatMap.mp h1
  obtain ⟨b, hb, rfl⟩ := List.mem_map.mp h2
  simp only [okC, Bool.and_eq_true, Bool.or_eq_true, beq_iff_eq]
  refine ⟨⟨?_, hss l hl⟩, ?_⟩
  · rcases List.mem_cons.mp ha with h | h
    · exact .inr h.symm
    · exact .inl (hss a h)
  · rcases List.mem_cons.mp hb with h | h
    · exact .inr h.symm
    · exact .inl (hss b h)
@[simp] theorem list_bo {rs : List Ru} : listD [boD rs] = some (.list (rs.map ruD)) := rfl
theorem isn_opt {x : Option Int} : isnD (optD x) .none = some (.bool x.isSome) := by cases x <;> rfl
theorem best_rng {rs : List Ru} {c : Ca} {v : Int} (h : okBo rs) (hv : best rs c = some v) : 0 ≤ v ∧ v < 1000 := by
  obtain ⟨⟨r, h1, _, h2⟩, _⟩ := best_some hv
  rw [← h2]
  exact ok_price (h.1 r h1)
theorem two_right_at {a b : List Ru} {cs : List Nat} (ha : okBo a) (hb : okBo b) (la : a.length ≤ 8) (lb : b.length ≤ 8) (hl : cs.length ≤ 10) (hcs : ∀ x ∈ cs, isLet x = true) :
    f_law_two_right [.im (boD a), .im (boD b), .im (sgsD cs)] = .ok (.im (.bool true)) [.im (boD a), .im (boD b), .im (sgsD cs)] := by
  have hm : a.length * b.length ≤ 80 := Nat.le_trans (Nat.mul_le_mul la lb) (by decide)
  have ei := either_at ha hb (by omega)
  have bo := both_at ha hb hm
  have on := once_at (rs := a ++ b) (fun r hr => (List.mem_append.mp hr).elim (ha.1 r) (hb.1 r)) (by simp; omega)
  have bd := both_due_at ha hb hm
  have okE : okBo (eiR a b) := eiR_ok ha hb (by omega)
  have okB : okBo (boR a b) := boR_ok ha hb hm
  have rp := rep_two okE okB
  obtain ⟨ss, p, tr⟩ := trios_at hl
  have okT := oks_trio hcs p
  rw [List.map_append] at on
  simp only [eiR, boR] at rp okE okB
  apply wpR_eq
  unfold f_law_two_right
  refine wpR_def rfl ?_
  simp [g_law_two_right, args0, ei, bo, on, bd, pick, rp, tr]
  refine ⟨by omega, ?_⟩
  refine for_inv (em := caD) (as := triosOf ss) (fun done e => ∃ x5 x9, e = [some (.im (boD a)), some (.im (boD b)), some (.im (sgsD cs)), some (.im (.list [boD (onceR (a ++ b)), boD (onceR (bothR a b))])), some (.im (.list [boD (onceR (a ++ b)), boD (onceR (bothR a b))])), x5, none, some (.im (boD (onceR (a ++ b)))), some (.im (boD (onceR (bothR a b)))), x9, none, none, none]) ⟨none, none, by simp⟩ ?_ ?_
  · rintro done c rest e hs ⟨x5, x9, rfl⟩
    have hc : okC c = true := okT c (by rw [hs]; simp)
    have c1 := cost_at (c := c) ha
    have c2 := cost_at (c := c) hb
    have p1 := price_at okE hc
    have p2 := price_at okB hc
    rw [cost_best hc] at c1 c2 p1 p2
    rw [show best (onceR (a ++ b)) c = oMin (best a c) (best b c) from best_ei] at p1
    rw [show best (onceR (bothR a b)) c = oMax (best a c) (best b c) from best_bo ha hb] at p2
    simp [c1, c2]
    refine comp_all (em := optD) (as := [best a c, best b c]) (fun x => x.isSome) optD rfl rfl rfl (by simp) (fun x hx => ?_) ?_
    · have := isn_opt (x := x)
      simp [wipeE, this]
      cases x <;> simp [imAt, wipeE]
    · cases hx : best a c with
      | none =>
        cases hy : best b c with
        | none =>
          rw [hx, hy] at p1 p2
          simp only [oMin, oMax] at p1 p2
          have n0 := ne_opt (x := none)
          have n1 := ne_ints (ns := []) (by simp)
          simp only [optD] at p1 p2 n0
          simp at n1
          simp [p1, p2, n0, n1]
        | some v =>
          rw [hx, hy] at p1 p2
          have bv := best_rng hb hy
          simp only [oMin, oMax] at p1 p2
          have n0 := ne_opt (x := none)
          have n2 := ne_opt (x := some v)
          have n1 := ne_ints (ns := [v]) (by simp; omega)
          have m1 := min_ints [v]
          simp only [optD] at p1 p2 n0 n2
          simp [minI] at n1 m1
          simp [p1, p2, n0, n1, n2, m1, optD]
      | some u =>
        have bu := best_rng ha hx
        cases hy : best b c with
        | none =>
          rw [hx, hy] at p1 p2
          simp only [oMin, oMax] at p1 p2
          have n0 := ne_opt (x := none)
          have n2 := ne_opt (x := some u)
          have n1 := ne_ints (ns := [u]) (by simp; omega)
          have m1 := min_ints [u]
          simp only [optD] at p1 p2 n0 n2
          simp [minI] at n1 m1
          simp [p1, p2, n0, n1, n2, m1, optD]
        | some v =>
          rw [hx, hy] at p1 p2
          have bv := best_rng hb hy
          simp only [oMin, oMax] at p1 p2
          have n2 := ne_opt (x := some (min u v))
          have n3 := ne_opt (x := some (max u v))
          have n1 := ne_ints (ns := [u, v]) (by simp; omega)
          have m1 := min_ints [u, v]
          have m2 := max_ints [u, v]
          simp only [optD] at p1 p2 n2 n3
          simp [minI, maxI] at n1 m1 m2
          simp [p1, p2, n1, n2, n3, m1, m2, optD]
  · rintro e ⟨x5, x9, rfl⟩
    have w1 := is_within_at ha okE
    have w2 := is_within_at hb okE
    have w3 := is_within_at okB ha
    have w4 := is_within_at okB hb
    rw [within_iff.mpr fun c h => by rw [show best (onceR (a ++ b)) c = oMin (best a c) (best b c) from best_ei]; cases h1 : best a c <;> cases h2 : best b c <;> simp [oMin, h1] at h ⊢] at w1
    rw [within_iff.mpr fun c h => by rw [show best (onceR (a ++ b)) c = oMin (best a c) (best b c) from best_ei]; cases h1 : best a c <;> cases h2 : best b c <;> simp [oMin, h2] at h ⊢] at w2
    rw [within_iff.mpr fun c h => by rw [show best (onceR (bothR a b)) c = oMax (best a c) (best b c) from best_bo ha hb] at h; cases h1 : best a c <;> cases h2 : best b c <;> simp [oMax, h1, h2] at h ⊢] at w3
    rw [within_iff.mpr fun c h => by rw [show best (onceR (bothR a b)) c = oMax (best a c) (best b c) from best_bo ha hb] at h; cases h1 : best a c <;> cases h2 : best b c <;> simp [oMax, h1, h2] at h ⊢] at w4
    simp
    refine comp_map (em := fun p : List Ru × List Ru => PyData.tuple [boD p.1, boD p.2]) (as := [(a, onceR (a ++ b)), (b, onceR (a ++ b)), (onceR (bothR a b), a), (onceR (bothR a b), b)]) (fun _ => .bool true) rfl rfl rfl (by simp) (fun q hq => ?_) ?_
    · simp at hq
      have wq : fis_within [.im (boD q.1), .im (boD q.2)] = .ok (.im (.bool true)) [.im (boD q.1), .im (boD q.2)] := by
        rcases hq with h | h | h | h <;> rw [h] <;> assumption
      simp [wipeE, wq, isD, imAt]
    · have := all_bools [true, true, true, true]
      simp at this
      simp [this]
end FDL

namespace FDL
open PySem L2 FD
/-! ### three books -/
theorem ei_at {a b : List Ru} (ha : okBo a) (hb : okBo b) (hl : a.length + b.length ≤ 80) : feither [.im (boD a), .im (boD b)] = .ok (.im (boD (eiR a b))) [.im (boD a), .im (boD b)] := either_at ha hb hl
theorem bo_at {a b : List Ru} (ha : okBo a) (hb : okBo b) (hl : a.length * b.length ≤ 80) : fboth [.im (boD a), .im (boD b)] = .ok (.im (boD (boR a b))) [.im (boD a), .im (boD b)] := both_at ha hb hl
theorem mul_le {x y m n k : Nat} (hx : x ≤ m) (hy : y ≤ n) (h : m * n ≤ k) : x * y ≤ k := Nat.le_trans (Nat.mul_le_mul hx hy) h
theorem least_at {f s t : List Ru} (hf : okBo f) (hs : okBo s) (ht : okBo t) (lf : f.length ≤ 4) (ls : s.length ≤ 4) (lt : t.length ≤ 4) :
    f_law_least_and_greatest [.im (boD f), .im (boD s), .im (boD t)] = .ok (.im (.bool true)) [.im (boD f), .im (boD s), .im (boD t)] := by
  have Ll : ∀ (a b : List Ru) (m n : Nat), a.length ≤ m → b.length ≤ n → (eiR a b).length ≤ m + n := fun a b m n h1 h2 => by have := eiR_len a b; omega
  have Lb : ∀ (a b : List Ru) (m n : Nat), a.length ≤ m → b.length ≤ n → (boR a b).length ≤ m * n := fun a b m n h1 h2 => Nat.le_trans (boR_len a b) (Nat.mul_le_mul h1 h2)
  have ofs := eiR_ok hf hs (by omega)
  have osf := eiR_ok hs hf (by omega)
  have ost := eiR_ok hs ht (by omega)
  have oft := eiR_ok hf ht (by omega)
  have off := eiR_ok hf hf (by omega)
  have bfs := boR_ok hf hs (mul_le lf ls (by decide))
  have bsf := boR_ok hs hf (mul_le ls lf (by decide))
  have bst := boR_ok hs ht (mul_le ls lt (by decide))
  have bft := boR_ok hf ht (mul_le lf lt (by decide))
  have bff := boR_ok hf hf (mul_le lf lf (by decide))
  have l1 := Ll f s 4 4 lf ls
  have l2 := Ll s t 4 4 ls lt
  have l3 := Ll f t 4 4 lf lt
  have k1 := Lb f s 4 4 lf ls
  have k2 := Lb s t 4 4 ls lt
  have k3 := Lb f t 4 4 lf lt
  have e1 := ei_at hf hf (by omega)
  have e2 := bo_at hf hf (mul_le lf lf (by decide))
  have e3 := ei_at hf hs (by omega)
  have e4 := ei_at hs hf (by omega)
  have e5 := bo_at hf hs (mul_le lf ls (by decide))
  have e6 := bo_at hs hf (mul_le ls lf (by decide))
  have e7 := ei_at hf bfs (by omega)
  have e8 := bo_at hf ofs (mul_le lf l1 (by decide))
  have e9 := ei_at ofs ht (by omega)
  have e10 := ei_at hs ht (by omega)
  have e11 := ei_at hf ost (by omega)
  have e12 := bo_at hf ost (mul_le lf l2 (by decide))
  have e13 := bo_at hf ht (mul_le lf lt (by decide))
  have e14 := ei_at bfs bft (by omega)
  have e15 := bo_at hs ht (mul_le ls lt (by decide))
  have e16 := ei_at hf bst (by omega)
  have e17 := ei_at hf ht (by omega)
  have e18 := bo_at ofs oft (mul_le l1 l3 (by decide))
  have o7 := eiR_ok hf bfs (by omega)
  have o8 := boR_ok hf ofs (mul_le lf l1 (by decide))
  have o9 := eiR_ok ofs ht (by omega)
  have o11 := eiR_ok hf ost (by omega)
  have o12 := boR_ok hf ost (mul_le lf l2 (by decide))
  have o14 := eiR_ok bfs bft (by omega)
  have o16 := eiR_ok hf bst (by omega)
  have o18 := boR_ok ofs oft (mul_le l1 l3 (by decide))
  apply wpR_eq
  unfold f_law_least_and_greatest
  refine wpR_def rfl ?_
  simp [g_law_least_and_greatest, args0, e1, e2, e3, e4, e5, e6, e7, e8, e9, e10, e11, e12, e13, e14, e15, e16, e17, e18, M.toD, imAll, isLs]
  refine comp_map (em := fun p : List Ru × List Ru => PyData.tuple [boD p.1, boD p.2]) (as := [(eiR f f, f), (boR f f, f), (eiR f s, eiR s f), (boR f s, boR s f), (eiR f (boR f s), f), (boR f (eiR f s), f), (eiR (eiR f s) t, eiR f (eiR s t)), (boR f (eiR s t), eiR (boR f s) (boR f t)), (eiR f (boR s t), boR (eiR f s) (eiR f t))]) (fun _ => .bool true) rfl rfl rfl (by simp) (fun q hq => ?_) ?_
  · have wq : fsame [.im (boD q.1), .im (boD q.2)] = .ok (.im (.bool true)) [.im (boD q.1), .im (boD q.2)] := by
      have go : ∀ a b : List Ru, okBo a → okBo b → (∀ c, best a c = best b c) → fsame [.im (boD a), .im (boD b)] = .ok (.im (.bool true)) [.im (boD a), .im (boD b)] := fun a b h1 h2 h3 => by
        have := same_at h1 h2
        rw [(same_iff a b).mpr h3] at this
        exact this
      simp only [List.mem_cons, List.not_mem_nil, or_false] at hq
      rcases hq with h | h | h | h | h | h | h | h | h <;> rw [h]
      · exact go _ _ off hf fun c => by rw [best_ei, min_self]
      · exact go _ _ bff hf fun c => by rw [best_bo hf hf, max_self]
      · exact go _ _ ofs osf fun c => by rw [best_ei, best_ei, min_com]
      · exact go _ _ bfs bsf fun c => by rw [best_bo hf hs, best_bo hs hf, max_com]
      · exact go _ _ o7 hf fun c => by rw [best_ei, best_bo hf hs, min_abs]
      · exact go _ _ o8 hf fun c => by rw [best_bo hf ofs, best_ei, max_abs]
      · exact go _ _ o9 o11 fun c => by rw [best_ei, best_ei, best_ei, best_ei, min_ass]
      · exact go _ _ o12 o14 fun c => by rw [best_bo hf ost, best_ei, best_ei, best_bo hf hs, best_bo hf ht, max_dis]
      · exact go _ _ o16 o18 fun c => by rw [best_ei, best_bo hs ht, best_bo ofs oft, best_ei, best_ei, min_dis]
    simp [wipeE, wq, isD, imAt]
  · have := all_bools [true, true, true, true, true, true, true, true, true]
    simp at this
    simp [this]
end FDL

namespace FDL
open PySem L2 FD
theorem ne_bo {rs : List Ru} (h : okBo rs) : neD (boD rs) (.tuple []) = some (.bool (!rs.isEmpty)) := by
  have s1 := (gd_bo h).shp (by decide)
  have : eqOk (boD rs) (.tuple []) = true := by
    unfold eqOk
    rw [s1]
    simp
    exact .inr rfl
  unfold neD
  rw [if_pos this]
  cases rs <;> rfl
theorem sl_bo1 {rs : List Ru} : slD (boD rs) none (some 1) = some (boD (rs.take 1)) := by
  have := sl_hi (ds := rs.map ruD) (n := 1)
  rw [← List.map_take] at this
  exact this
theorem sl_bo1d {rs : List Ru} : slD (boD rs) (some 1) none = some (boD (rs.drop 1)) := by
  have := sl_lo (ds := rs.map ruD) (n := 1)
  rw [← List.map_drop] at this
  exact this
theorem law_true : ∀ ns : List Int, ns.length ≤ 63 → ∃ ms', flaw [.im (.list (ns.map .int))] = .ok (.im (.bool true)) ms' := by
  intro ns hn
  suffices h : wpR (flaw [.im (.list (ns.map .int))]) fun r _ => r = .im (.bool true) by
    obtain ⟨r, ms, h1, h2⟩ := wpR_ex h
    exact ⟨ms, by rw [h1, h2]⟩
  unfold flaw
  refine wpR_def rfl ?_
  have cut : slD (.list (ns.map PyData.int ++ [.int 0])) none (some 9) = some (.list (((ns ++ [0]).take 9).map PyData.int)) := cells_cut 9
  have hq : ∀ q ∈ ((ns ++ [0]).take 9).zipIdx, q.2 < 9 := fun q h => cells_mem h
  generalize (ns ++ [0]).take 9 = cells at cut hq
  simp [glaw, args0]
  refine ⟨by omega, ?_⟩
  simp [cut, enA, enum_ints]
  refine for_inv (em := fun q : Int × Nat => PyData.tuple [.int (q.2 : Nat), .int q.1]) (as := cells.zipIdx) (fun _ e => ∃ x1 x2 x3 x4 x5 x6 x7, e = [some (.im (.list (ns.map .int))), x1, x2, x3, x4, x5, x6, x7]) ⟨_, _, _, _, _, _, _, rfl⟩ ?_ ?_
  · rintro done q rest e hs ⟨x1, x2, x3, x4, x5, x6, x7, rfl⟩
    have hk := hq q (by rw [hs]; simp)
    simp
    refine stream_wp (by omega) (by omega) fun a c => ?_
    simp
    refine take_wp (by decide) (by decide) (by decide) (by decide) fun r1 a1 h10 h11 => ?_
    simp
    refine signs_wp (by omega) (by omega) (by decide) (by decide) fun a2 cs hcl hcs => ?_
    simp
    refine take_wp (by decide) (by decide) (by omega) (by omega) fun r2 a3 h20 h21 => ?_
    simp
    refine rules_wp (by omega) (by omega) hcs h20 (by omega) (by omega) (by omega) fun a4 b4 f okf lf hb1 hb2 => ?_
    simp
    refine take_wp (by decide) (by decide) (by omega) (by omega) fun r3 a5 h30 h31 => ?_
    simp
    refine rules_wp (by omega) (by omega) hcs h30 (by omega) (by omega) (by omega) fun a6 b6 s oks ls hb3 hb4 => ?_
    simp
    refine take_wp (by decide) (by decide) (by omega) (by omega) fun r4 a7 h40 h41 => ?_
    simp
    refine rules_wp (by omega) (by omega) hcs h40 (by omega) (by omega) (by omega) fun a8 b8 t okt lt hb5 hb6 => ?_
    have n1 := ne_bo okf
    simp [n1]
    have t1 := two_right_at okf oks (by omega) (by omega) (by omega) hcs
    have t2 := two_right_at oks okt (by omega) (by omega) (by omega) hcs
    have l1 := least_at okf oks okt (by omega) (by omega) (by omega)
    cases hf : f.isEmpty with
    | true => simp [t1, t2, l1]
    | false =>
      simp
      refine take_wp (by decide) (by decide) (by omega) (by omega) fun r5 a9 h50 h51 => ?_
      simp
      cases h0 : r5 == 0 with
      | false => simp [t1, t2, l1]
      | true =>
        have oks' : okBo (f.take 1 ++ s.drop 1) := ⟨fun r hr => (List.mem_append.mp hr).elim (fun h => okf.1 r (List.mem_of_mem_take h)) fun h => oks.1 r (List.mem_of_mem_drop h), by simp; omega⟩
        have ls' : (f.take 1 ++ s.drop 1).length ≤ 4 ∨ s.length = 0 := by simp; omega
        have ls2 : (f.take 1 ++ s.drop 1).length ≤ 4 := by simp; omega
        have t1 := two_right_at okf oks' (by omega) (by omega) (by omega) hcs
        have t2 := two_right_at oks' okt (by omega) (by omega) (by omega) hcs
        have l1 := least_at okf oks' okt (by omega) (by omega) (by omega)
        simp [sl_bo1, sl_bo1d]
        refine ⟨by omega, ?_⟩
        simp at t1 t2 l1
        simp [t1, t2, l1]
  · rintro e ⟨x1, x2, x3, x4, x5, x6, x7, rfl⟩
    simp
end FDL

namespace FDL
open PySem L2 FD
/-! The defs of the text: places, scopes, what each denotes, the derivations. Printed by gen.py. -/
def top (i : Nat) : Stmt := PySem.Challenge.pw_strikeline_k03_whole_books_put_together.main.body.getD i (.Pass ⟨0, 0, 0, 0⟩)
abbrev sis_whole : Stmt := top 7
abbrev sis_letter : Stmt := top 8
abbrev sis_side : Stmt := top 15
abbrev srule_looks : Stmt := top 16
abbrev sneed_book : Stmt := top 17
abbrev sneed_case : Stmt := top 18
abbrev sfits_case : Stmt := top 19
abbrev sprice_there : Stmt := top 20
abbrev sprice : Stmt := top 21
abbrev ssigns_for : Stmt := top 22
abbrev srule_cases : Stmt := top 23
abbrev sprice_table : Stmt := top 24
abbrev stwo_tables : Stmt := top 25
abbrev ssame : Stmt := top 26
abbrev sis_within : Stmt := top 27
abbrev seach_once : Stmt := top 28
abbrev seither : Stmt := top 29
abbrev ssides_met : Stmt := top 30
abbrev sboth : Stmt := top 31
abbrev s_law_mixed : Stmt := top 33
abbrev s_law_stream : Stmt := top 34
abbrev s_law_take : Stmt := top 35
abbrev s_law_signs : Stmt := top 36
abbrev s_law_side : Stmt := top 37
abbrev s_law_rule : Stmt := top 38
abbrev s_law_rules : Stmt := top 39
abbrev s_law_cost : Stmt := top 40
abbrev s_law_trios : Stmt := top 41
abbrev s_law_met : Stmt := top 42
abbrev s_law_once : Stmt := top 43
abbrev s_law_both_due : Stmt := top 44
abbrev s_law_two_right : Stmt := top 45
abbrev s_law_least_and_greatest : Stmt := top 46
abbrev slaw : Stmt := top 47
structure Txt (mg : Str → Option Value) : Prop where
  b_all : mg "all" = none
  b_bool : mg "bool" = none
  b_enumerate : mg "enumerate" = none
  b_int : mg "int" = none
  b_isinstance : mg "isinstance" = none
  b_len : mg "len" = none
  b_list : mg "list" = none
  b_max : mg "max" = none
  b_min : mg "min" = none
  b_range : mg "range" = none
  b_repr : mg "repr" = none
  b_sorted : mg "sorted" = none
  b_str : mg "str" = none
  b_tuple : mg "tuple" = none
  c_ANY_SIGN : Con mg "ANY_SIGN" (.str "*")
  c_FIRST_END : Con mg "FIRST_END" (.str "<")
  c_LAST_END : Con mg "LAST_END" (.str ">")
  c_LETTERS : Con mg "LETTERS" (.str "abcdefghijklmnopqrstuvwxyz")
  c_MOST_PRICE : Con mg "MOST_PRICE" (.int 999)
  c_MOST_RULES : Con mg "MOST_RULES" (.int 80)
section
variable {P : Program} {w : World} {K : PySem.W.Frag} {mg : Str → Option Value} {base : Heap}
theorem scis_whole : FnScope ["thing", "least", "most"] ["thing", "least", "most"] (defScope sis_whole) := ⟨rfl, rfl, rfl, by decide +kernel, rfl, by decide +kernel, by decide +kernel⟩
theorem bdis_whole (T : Txt mg) : Body P w K mg base 0 "is_whole" sis_whole ["thing", "least", "most"] [] gis_whole := fun f cdv A outer s H vs E hg hr => (dss_one (ds_ret (de_and (de_isi kit_int T.b_isinstance T.b_int (de_var 0)) (de_and (de_not (de_isi kit_bool T.b_isinstance T.b_bool (de_var 0))) (de_one (de_chain od_le od_le (de_var 1) (de_var 0) (de_var 2)))))))
theorem scis_letter : FnScope ["thing"] ["thing"] (defScope sis_letter) := ⟨rfl, rfl, rfl, by decide +kernel, rfl, by decide +kernel, by decide +kernel⟩
theorem bdis_letter (T : Txt mg) : Body P w K mg base 0 "is_letter" sis_letter ["thing"] [] gis_letter := fun f cdv A outer s H vs E hg hr => (dss_one (ds_ret (de_and (de_isi kit_str T.b_isinstance T.b_str (de_var 0)) (de_and (de_cmp (od_eqA hr) (de_callB cb_len T.b_len (da_cons (de_var 0) da_nil)) de_int) (de_one (de_cmp (od_inA hr) (de_var 0) (de_con T.c_LETTERS)))))))
theorem scis_side : FnScope ["thing", "end"] ["thing", "end"] (defScope sis_side) := ⟨rfl, rfl, rfl, by decide +kernel, rfl, by decide +kernel, by decide +kernel⟩
theorem bdis_side (T : Txt mg) (h_is_letter : Has P w K mg base 1 "is_letter" ["thing"] fis_letter) : Body P w K mg base 1 "is_side" sis_side ["thing", "end"] [] gis_side := fun f cdv A outer s H vs E hg hr => (dss_one (ds_ret (de_or (de_callH h_is_letter hg (hr.mono (by decide)) (dr_d (de_var 0) dr_nil)) (de_one (de_and (de_isi kit_str T.b_isinstance T.b_str (de_var 0)) (de_one (de_cmp (od_inA hr) (de_var 0) (de_tup (da_cons (de_var 1) (da_cons (de_con T.c_ANY_SIGN) da_nil))))))))))
theorem scrule_looks : FnScope ["thing", "sides"] ["thing"] (defScope srule_looks) := ⟨rfl, rfl, rfl, by decide +kernel, rfl, by decide +kernel, by decide +kernel⟩
theorem bdrule_looks (T : Txt mg) (h_is_side : Has P w K mg base 2 "is_side" ["thing", "end"] fis_side) (h_is_letter : Has P w K mg base 1 "is_letter" ["thing"] fis_letter) (k_is_whole_1_most : HasK P w K mg base 1 "is_whole" ["thing", "least", "most"] fis_whole 1 ["most"] [.inl 0, .inr 0, .inl 1] [.int 0]) : Body P w K mg base 2 "rule_looks" srule_looks ["thing", "sides"] [] grule_looks := fun f cdv A outer s H vs E hg hr => (dss_cons (ds_set 1 scrule_looks.nd (de_lst (da_cons (de_callH h_is_side hg (hr.mono (by decide)) (dr_d (de_ixA hr (de_var 0) de_int) (dr_d (de_con T.c_FIRST_END) dr_nil))) (da_cons (de_callH h_is_letter hg (hr.mono (by decide)) (dr_d (de_ixA hr (de_var 0) de_int) dr_nil)) (da_cons (de_callH h_is_side hg (hr.mono (by decide)) (dr_d (de_ixA hr (de_var 0) de_int) (dr_d (de_con T.c_LAST_END) dr_nil))) da_nil))))) (dss_one (ds_ret (de_bin od_add (de_var 1) (de_lst (da_cons (de_callHK k_is_whole_1_most hg (hr.mono (by decide)) (dr_d (de_ixA hr (de_var 0) de_int) dr_nil) (dk_cons (de_con T.c_MOST_PRICE) dk_nil)) da_nil))))))
theorem scneed_book : FnScope ["thing", "place", "rule"] ["thing"] (defScope sneed_book) := ⟨rfl, rfl, rfl, by decide +kernel, rfl, by decide +kernel, by decide +kernel⟩
theorem bdneed_book (T : Txt mg) (h_rule_looks : Has P w K mg base 3 "rule_looks" ["thing"] frule_looks) : Body P w K mg base 3 "need_book" sneed_book ["thing", "place", "rule"] [] gneed_book := fun f cdv A outer s H vs E hg hr => (dss_cons (ds_if (dt_w (dw_or (dt_not (dt_val (de_isi kit_tuple T.b_isinstance T.b_tuple (de_var 0)))) (dw_or1 (dt_cmp od_gt (de_callB cb_len T.b_len (da_cons (de_var 0) da_nil)) (de_con T.c_MOST_RULES))))) (dss_one ds_never) dss_nil) (dss_one (ds_for (di_enum T.b_enumerate (da_cons (de_var 0) da_nil)) (dg_tup (dgs_cons (dg_name 1 scneed_book.nd) (dgs_cons (dg_name 2 scneed_book.nd) dgs_nil))) (dss_one (ds_if (dt_w (dw_or (dt_not (dt_val (de_isi kit_tuple T.b_isinstance T.b_tuple (de_var 2)))) (dw_or (dt_cmp (od_ne hr) (de_callB cb_len T.b_len (da_cons (de_var 2) da_nil)) de_int) (dw_or1 (dt_cmp (od_inA hr) de_bl (de_callH h_rule_looks hg (hr.mono (by decide)) (dr_d (de_var 2) dr_nil))))))) (dss_one ds_never) dss_nil)) PassesOwn.never)))
theorem scneed_case : FnScope ["thing", "ahead", "letter", "behind"] ["thing"] (defScope sneed_case) := ⟨rfl, rfl, rfl, by decide +kernel, rfl, by decide +kernel, by decide +kernel⟩
theorem bdneed_case (T : Txt mg) (h_is_side : Has P w K mg base 2 "is_side" ["thing", "end"] fis_side) (h_is_letter : Has P w K mg base 1 "is_letter" ["thing"] fis_letter) : Body P w K mg base 2 "need_case" sneed_case ["thing", "ahead", "letter", "behind"] [] gneed_case := fun f cdv A outer s H vs E hg hr => (dss_cons (ds_if (dt_w (dw_or (dt_not (dt_val (de_isi kit_tuple T.b_isinstance T.b_tuple (de_var 0)))) (dw_or1 (dt_cmp (od_ne hr) (de_callB cb_len T.b_len (da_cons (de_var 0) da_nil)) de_int)))) (dss_one ds_never) dss_nil) (dss_cons (ds_asg (de_var 0) (dg_tup (dgs_cons (dg_name 1 scneed_case.nd) (dgs_cons (dg_name 2 scneed_case.nd) (dgs_cons (dg_name 3 scneed_case.nd) dgs_nil)))) (nx_tup (nx_cons (nx_name 1) (nx_cons (nx_name 2) (nx_cons (nx_name 3) nx_nil))))) (dss_cons (ds_if (dt_w (dw_or (dt_not (dt_val (de_callH h_is_side hg (hr.mono (by decide)) (dr_d (de_var 1) (dr_d (de_con T.c_FIRST_END) dr_nil))))) (dw_or (dt_not (dt_val (de_callH h_is_letter hg (hr.mono (by decide)) (dr_d (de_var 2) dr_nil)))) (dw_or1 (dt_not (dt_val (de_callH h_is_side hg (hr.mono (by decide)) (dr_d (de_var 3) (dr_d (de_con T.c_LAST_END) dr_nil))))))))) (dss_one ds_never) dss_nil) (dss_one (ds_if (dt_w (dw_or (dt_cmp (od_eqA hr) (de_var 1) (de_con T.c_ANY_SIGN)) (dw_or1 (dt_cmp (od_eqA hr) (de_var 3) (de_con T.c_ANY_SIGN))))) (dss_one ds_never) dss_nil)))))
theorem scfits_case : FnScope ["rule", "case"] ["rule", "case"] (defScope sfits_case) := ⟨rfl, rfl, rfl, by decide +kernel, rfl, by decide +kernel, by decide +kernel⟩
theorem bdfits_case (T : Txt mg) : Body P w K mg base 0 "fits_case" sfits_case ["rule", "case"] [] gfits_case := fun f cdv A outer s H vs E hg hr => (dss_one (ds_ret (de_and (de_cmp (od_eqA hr) (de_ixA hr (de_var 0) de_int) (de_ixA hr (de_var 1) de_int)) (de_and (de_cmp (od_inA hr) (de_ixA hr (de_var 0) de_int) (de_tup (da_cons (de_ixA hr (de_var 1) de_int) (da_cons (de_con T.c_ANY_SIGN) da_nil)))) (de_one (de_cmp (od_inA hr) (de_ixA hr (de_var 0) de_int) (de_tup (da_cons (de_ixA hr (de_var 1) de_int) (da_cons (de_con T.c_ANY_SIGN) da_nil)))))))))
theorem scprice_there : FnScope ["book", "case", "prices", "rule"] ["book", "case"] (defScope sprice_there) := ⟨rfl, rfl, rfl, by decide +kernel, rfl, by decide +kernel, by decide +kernel⟩
theorem bdprice_there (T : Txt mg) (h_fits_case : Has P w K mg base 1 "fits_case" ["rule", "case"] ffits_case) : Body P w K mg base 1 "price_there" sprice_there ["book", "case", "prices", "rule"] [] gprice_there := fun f cdv A outer s H vs E hg hr => (dss_cons (ds_setLc 2 [("rule", 3)] scprice_there.nd (di_any (de_var 0)) (blkOk_by (by kernel_rfl)) (fun _ _ _ _ _ => (dg_name 3 scprice_there.nd)) (fun _ _ _ _ _ => (dts_one (dt_val (de_callH h_fits_case hg (hr.mono (by decide)) (dr_d (de_var 3) (dr_d (de_var 1) dr_nil)))))) (fun _ _ _ _ _ => (de_ixA hr (de_var 3) de_int)) (sw_true rfl rfl rfl rfl)) (dss_one (ds_ret (de_if (dt_cmp (od_ne hr) (de_var 2) (de_lst da_nil)) (de_callB cb_min T.b_min (da_cons (de_var 2) da_nil)) de_non))))
theorem scprice : FnScope ["book", "case"] ["book", "case"] (defScope sprice) := ⟨rfl, rfl, rfl, by decide +kernel, rfl, by decide +kernel, by decide +kernel⟩
theorem bdprice (T : Txt mg) (h_need_book : Has P w K mg base 4 "need_book" ["thing"] fneed_book) (h_need_case : Has P w K mg base 3 "need_case" ["thing"] fneed_case) (h_price_there : Has P w K mg base 2 "price_there" ["book", "case"] fprice_there) : Body P w K mg base 4 "price" sprice ["book", "case"] [] gprice := fun f cdv A outer s H vs E hg hr => (dss_cons (ds_expr (de_callH h_need_book hg (hr.mono (by decide)) (dr_d (de_var 0) dr_nil))) (dss_cons (ds_expr (de_callH h_need_case hg (hr.mono (by decide)) (dr_d (de_var 1) dr_nil))) (dss_one (ds_ret (de_callH h_price_there hg (hr.mono (by decide)) (dr_d (de_var 0) (dr_d (de_var 1) dr_nil)))))))
theorem scsigns_for : FnScope ["side", "end"] ["side", "end"] (defScope ssigns_for) := ⟨rfl, rfl, rfl, by decide +kernel, rfl, by decide +kernel, by decide +kernel⟩
theorem bdsigns_for (T : Txt mg) : Body P w K mg base 0 "signs_for" ssigns_for ["side", "end"] [] gsigns_for := fun f cdv A outer s H vs E hg hr => (dss_one (ds_ret (de_if (dt_cmp (od_eqA hr) (de_var 0) (de_con T.c_ANY_SIGN)) (de_bin od_add (de_tup (da_cons (de_var 1) da_nil)) (de_callT cb_tuple T.b_tuple (da_cons (de_con T.c_LETTERS) da_nil))) (de_tup (da_cons (de_var 0) da_nil)))))
theorem scrule_cases : FnScope ["rule", "aheads", "behinds", "ahead", "behind"] ["rule"] (defScope srule_cases) := ⟨rfl, rfl, rfl, by decide +kernel, rfl, by decide +kernel, by decide +kernel⟩
theorem bdrule_cases (T : Txt mg) (h_signs_for : Has P w K mg base 1 "signs_for" ["side", "end"] fsigns_for) : Body P w K mg base 1 "rule_cases" srule_cases ["rule", "aheads", "behinds", "ahead", "behind"] [] grule_cases := fun f cdv A outer s H vs E hg hr => (dss_cons (ds_asg (de_tup (da_cons (de_callH h_signs_for hg (hr.mono (by decide)) (dr_d (de_ixA hr (de_var 0) de_int) (dr_d (de_con T.c_FIRST_END) dr_nil))) (da_cons (de_callH h_signs_for hg (hr.mono (by decide)) (dr_d (de_ixA hr (de_var 0) de_int) (dr_d (de_con T.c_LAST_END) dr_nil))) da_nil))) (dg_tup (dgs_cons (dg_name 1 scrule_cases.nd) (dgs_cons (dg_name 2 scrule_cases.nd) dgs_nil))) (nx_tup (nx_cons (nx_name 1) (nx_cons (nx_name 2) nx_nil)))) (dss_one (ds_ret (de_comp2 [("ahead", 3), ("behind", 4)] [4] scrule_cases.nd (di_any (de_var 1)) (blkOk_by (by kernel_rfl)) (fun _ _ _ _ _ => (dg_name 3 scrule_cases.nd)) (fun _ _ _ _ _ => dts_nil) (fun _ _ _ _ _ => (di_any (de_var 2))) (fun _ _ _ _ _ => (dg_name 4 scrule_cases.nd)) (fun _ _ _ _ _ => dts_nil) (fun _ _ _ _ _ => (de_tup (da_cons (de_var 3) (da_cons (de_ixA hr (de_var 0) de_int) (da_cons (de_var 4) da_nil)))))))))
theorem scprice_table : FnScope ["book", "found", "rule", "case"] ["book"] (defScope sprice_table) := ⟨rfl, rfl, rfl, by decide +kernel, rfl, by decide +kernel, by decide +kernel⟩
theorem bdprice_table (T : Txt mg) (h_rule_cases : Has P w K mg base 2 "rule_cases" ["rule"] frule_cases) : Body P w K mg base 2 "price_table" sprice_table ["book", "found", "rule", "case"] [] gprice_table := fun f cdv A outer s H vs E hg hr => (dss_cons (ds_setM 1 scprice_table.nd dm_dt) (dss_cons (ds_for (di_any (de_var 0)) (dg_name 2 scprice_table.nd) (dss_one (ds_for (di_any (de_callH h_rule_cases hg (hr.mono (by decide)) (dr_d (de_var 2) dr_nil))) (dg_name 3 scprice_table.nd) (dss_one (ds_store 1 hr (de_var 3) (de_callB cb_min T.b_min (da_cons (de_ixA hr (de_var 2) de_int) (da_cons (de_getP 1 hr (da_cons (de_var 3) (da_cons (de_ixA hr (de_var 2) de_int) da_nil)) (m2_of rfl rfl rfl rfl)) da_nil))))) PassesOwn.never)) PassesOwn.never) (dss_one (ds_ret (de_var 1)))))
theorem sctwo_tables : FnScope ["one", "other"] ["one", "other"] (defScope stwo_tables) := ⟨rfl, rfl, rfl, by decide +kernel, rfl, by decide +kernel, by decide +kernel⟩
theorem bdtwo_tables (T : Txt mg) (h_need_book : Has P w K mg base 4 "need_book" ["thing"] fneed_book) (h_price_table : Has P w K mg base 3 "price_table" ["book"] fprice_table) : Body P w K mg base 4 "two_tables" stwo_tables ["one", "other"] [] gtwo_tables := fun f cdv A outer s H vs E hg hr => (dss_cons (ds_expr (de_callH h_need_book hg (hr.mono (by decide)) (dr_d (de_var 0) dr_nil))) (dss_cons (ds_expr (de_callH h_need_book hg (hr.mono (by decide)) (dr_d (de_var 1) dr_nil))) (dss_one (ds_ret (de_tup (da_cons (de_callH h_price_table hg (hr.mono (by decide)) (dr_d (de_var 0) dr_nil)) (da_cons (de_callH h_price_table hg (hr.mono (by decide)) (dr_d (de_var 1) dr_nil)) da_nil)))))))
theorem scsame : FnScope ["one", "other", "mine", "others"] ["one", "other"] (defScope ssame) := ⟨rfl, rfl, rfl, by decide +kernel, rfl, by decide +kernel, by decide +kernel⟩
theorem bdsame (T : Txt mg) (h_two_tables : Has P w K mg base 5 "two_tables" ["one", "other"] ftwo_tables) : Body P w K mg base 5 "same" ssame ["one", "other", "mine", "others"] [] gsame := fun f cdv A outer s H vs E hg hr => (dss_cons (ds_asg (de_callH h_two_tables hg (hr.mono (by decide)) (dr_d (de_var 0) (dr_d (de_var 1) dr_nil))) (dg_tup (dgs_cons (dg_name 2 scsame.nd) (dgs_cons (dg_name 3 scsame.nd) dgs_nil))) (nx_tup (nx_cons (nx_name 2) (nx_cons (nx_name 3) nx_nil)))) (dss_one (ds_ret (de_cmp (od_eqA hr) (de_var 2) (de_var 3)))))
theorem scis_within : FnScope ["one", "other", "mine", "others", "case"] ["one", "other"] (defScope sis_within) := ⟨rfl, rfl, rfl, by decide +kernel, rfl, by decide +kernel, by decide +kernel⟩
theorem bdis_within (T : Txt mg) (h_two_tables : Has P w K mg base 5 "two_tables" ["one", "other"] ftwo_tables) : Body P w K mg base 5 "is_within" sis_within ["one", "other", "mine", "others", "case"] [] gis_within := fun f cdv A outer s H vs E hg hr => (dss_cons (ds_asg (de_callH h_two_tables hg (hr.mono (by decide)) (dr_d (de_var 0) (dr_d (de_var 1) dr_nil))) (dg_tup (dgs_cons (dg_name 2 scis_within.nd) (dgs_cons (dg_name 3 scis_within.nd) dgs_nil))) (nx_tup (nx_cons (nx_name 2) (nx_cons (nx_name 3) nx_nil)))) (dss_one (ds_ret (de_callB cb_all T.b_all (da_cons (de_comp [("case", 4)] scis_within.nd (di_any (de_var 2)) (blkOk_by (by kernel_rfl)) (fun _ _ _ _ _ => (dg_name 4 scis_within.nd)) (fun _ _ _ _ _ => dts_nil) (fun _ _ _ _ _ => (de_cmp (od_inA hr) (de_var 4) (de_var 3)))) da_nil)))))
theorem sceach_once : FnScope ["rules", "found", "rule"] ["rules"] (defScope seach_once) := ⟨rfl, rfl, rfl, by decide +kernel, rfl, by decide +kernel, by decide +kernel⟩
theorem bdeach_once (T : Txt mg) : Body P w K mg base 0 "each_once" seach_once ["rules", "found", "rule"] [] geach_once := fun f cdv A outer s H vs E hg hr => (dss_cons (ds_setM 1 sceach_once.nd (dm_lst da_nil)) (dss_cons (ds_for (di_any (de_var 0)) (dg_name 2 sceach_once.nd) (dss_one (ds_if (dt_ninPA 1 hr (de_var 2)) (dss_one (ds_append 1 (de_var 2))) dss_nil)) PassesOwn.never) (dss_cons (ds_if (dt_cmp od_gt (de_lenP 1 T.b_len) (de_con T.c_MOST_RULES)) (dss_one ds_never) dss_nil) (dss_one (ds_ret (de_callT cb_tuple T.b_tuple (da_cons (de_var 1) da_nil)))))))
theorem sceither : FnScope ["one", "other"] ["one", "other"] (defScope seither) := ⟨rfl, rfl, rfl, by decide +kernel, rfl, by decide +kernel, by decide +kernel⟩
theorem bdeither (T : Txt mg) (h_need_book : Has P w K mg base 4 "need_book" ["thing"] fneed_book) (h_each_once : Has P w K mg base 1 "each_once" ["rules"] feach_once) : Body P w K mg base 4 "either" seither ["one", "other"] [] geither := fun f cdv A outer s H vs E hg hr => (dss_cons (ds_expr (de_callH h_need_book hg (hr.mono (by decide)) (dr_d (de_var 0) dr_nil))) (dss_cons (ds_expr (de_callH h_need_book hg (hr.mono (by decide)) (dr_d (de_var 1) dr_nil))) (dss_one (ds_ret (de_callH h_each_once hg (hr.mono (by decide)) (dr_d (de_bin od_add (de_var 0) (de_var 1)) dr_nil))))))
theorem scsides_met : FnScope ["one", "other"] ["one", "other"] (defScope ssides_met) := ⟨rfl, rfl, rfl, by decide +kernel, rfl, by decide +kernel, by decide +kernel⟩
theorem bdsides_met (T : Txt mg) : Body P w K mg base 0 "sides_met" ssides_met ["one", "other"] [] gsides_met := fun f cdv A outer s H vs E hg hr => (dss_cons (ds_if (dt_cmp (od_inA hr) (de_var 1) (de_tup (da_cons (de_var 0) (da_cons (de_con T.c_ANY_SIGN) da_nil)))) (dss_one (ds_ret (de_var 0))) dss_nil) (dss_one (ds_ret (de_if (dt_cmp (od_eqA hr) (de_var 0) (de_con T.c_ANY_SIGN)) (de_var 1) de_non))))
theorem scboth : FnScope ["one", "other", "found", "ahead", "letter", "behind", "cost", "other_ahead", "other_letter", "other_behind", "other_cost", "sides"] ["one", "other"] (defScope sboth) := ⟨rfl, rfl, rfl, by decide +kernel, rfl, by decide +kernel, by decide +kernel⟩
theorem bdboth (T : Txt mg) (h_need_book : Has P w K mg base 4 "need_book" ["thing"] fneed_book) (h_sides_met : Has P w K mg base 1 "sides_met" ["one", "other"] fsides_met) (h_each_once : Has P w K mg base 1 "each_once" ["rules"] feach_once) : Body P w K mg base 4 "both" sboth ["one", "other", "found", "ahead", "letter", "behind", "cost", "other_ahead", "other_letter", "other_behind", "other_cost", "sides"] [] gboth := fun f cdv A outer s H vs E hg hr => (dss_cons (ds_expr (de_callH h_need_book hg (hr.mono (by decide)) (dr_d (de_var 0) dr_nil))) (dss_cons (ds_expr (de_callH h_need_book hg (hr.mono (by decide)) (dr_d (de_var 1) dr_nil))) (dss_cons (ds_setM 2 scboth.nd (dm_lst da_nil)) (dss_cons (ds_for (di_any (de_var 0)) (dg_tup (dgs_cons (dg_name 3 scboth.nd) (dgs_cons (dg_name 4 scboth.nd) (dgs_cons (dg_name 5 scboth.nd) (dgs_cons (dg_name 6 scboth.nd) dgs_nil))))) (dss_one (ds_for (di_any (de_var 1)) (dg_tup (dgs_cons (dg_name 7 scboth.nd) (dgs_cons (dg_name 8 scboth.nd) (dgs_cons (dg_name 9 scboth.nd) (dgs_cons (dg_name 10 scboth.nd) dgs_nil))))) (dss_cons (ds_set 11 scboth.nd (de_tup (da_cons (de_callH h_sides_met hg (hr.mono (by decide)) (dr_d (de_var 3) (dr_d (de_var 7) dr_nil))) (da_cons (de_callH h_sides_met hg (hr.mono (by decide)) (dr_d (de_var 5) (dr_d (de_var 9) dr_nil))) da_nil)))) (dss_one (ds_if (dt_w (dw_and (dt_cmp (od_eqA hr) (de_var 4) (de_var 8)) (dw_and1 (dt_cmp (od_ninA hr) de_non (de_var 11))))) (dss_one (ds_append 2 (de_tup (da_cons (de_ixA hr (de_var 11) de_int) (da_cons (de_var 4) (da_cons (de_ixA hr (de_var 11) de_int) (da_cons (de_callB cb_max T.b_max (da_cons (de_var 6) (da_cons (de_var 10) da_nil))) da_nil))))))) dss_nil))) PassesOwn.never)) PassesOwn.never) (dss_one (ds_ret (de_callH h_each_once hg (hr.mono (by decide)) (dr_d (de_var 2) dr_nil))))))))
theorem sc_law_mixed : FnScope ["_law_number", "_law_k"] ["_law_number", "_law_k"] (defScope s_law_mixed) := ⟨rfl, rfl, rfl, by decide +kernel, rfl, by decide +kernel, by decide +kernel⟩
theorem bd_law_mixed (T : Txt mg) : Body P w K mg base 0 "_law_mixed" s_law_mixed ["_law_number", "_law_k"] [] g_law_mixed := fun f cdv A outer s H vs E hg hr => (dss_cons (ds_set 0 sc_law_mixed.nd (de_bin od_mod (de_bin od_mul (de_bin od_add (de_bin od_add (de_bin od_mod (de_var 0) de_int) (de_bin od_mul (de_bin od_mul de_int (de_var 1)) (de_var 1))) (de_bin od_mul de_int (de_var 1))) de_int) de_int)) (dss_one (ds_ret (de_bin od_mod (de_bin od_mul (de_var 0) (de_bin od_add de_int (de_bin od_mul de_int (de_var 1)))) de_int))))
theorem sc_law_stream : FnScope ["_law_cell", "_law_k"] ["_law_cell", "_law_k"] (defScope s_law_stream) := ⟨rfl, rfl, rfl, by decide +kernel, rfl, by decide +kernel, by decide +kernel⟩
theorem bd_law_stream (T : Txt mg) (h__law_mixed : Has P w K mg base 1 "_law_mixed" ["_law_number", "_law_k"] f_law_mixed) : Body P w K mg base 1 "_law_stream" s_law_stream ["_law_cell", "_law_k"] [] g_law_stream := fun f cdv A outer s H vs E hg hr => (dss_one (ds_retM (dm_lst (da_cons (de_if (dt_cmp od_ge (de_var 0) (de_bin od_pow de_int de_int)) (de_var 0) de_int) (da_cons de_int (da_cons (de_callH h__law_mixed hg (hr.mono (by decide)) (dr_d (de_var 0) (dr_d (de_var 1) dr_nil))) da_nil))))))
theorem sc_law_take : FnScope ["_law_stream_here", "_law_many", "_law_number"] ["_law_stream_here", "_law_many"] (defScope s_law_take) := ⟨rfl, rfl, rfl, by decide +kernel, rfl, by decide +kernel, by decide +kernel⟩
theorem bd_law_take (T : Txt mg) (h__law_mixed : Has P w K mg base 1 "_law_mixed" ["_law_number", "_law_k"] f_law_mixed) : Body P w K mg base 1 "_law_take" s_law_take ["_law_stream_here", "_law_many", "_law_number"] [0] g_law_take := fun f cdv A outer s H vs E hg hr => (dss_cons (ds_store 0 hr de_int (de_bin od_add (de_ixPA 0 hr de_int) de_int)) (dss_cons (ds_if (dt_cmp (od_eqA hr) (de_ixPA 0 hr de_int) de_int) (dss_one (ds_ret (de_bin od_mod (de_callH h__law_mixed hg (hr.mono (by decide)) (dr_d (de_callH h__law_mixed hg (hr.mono (by decide)) (dr_d (de_ixPA 0 hr de_int) (dr_d (de_ixPA 0 hr de_int) dr_nil))) (dr_d de_int dr_nil))) (de_var 1)))) dss_nil) (dss_cons (ds_set 2 sc_law_take.nd (de_bin od_mod (de_ixPA 0 hr de_int) (de_var 1))) (dss_cons (ds_store 0 hr de_int (de_bin od_fdv (de_ixPA 0 hr de_int) (de_var 1))) (dss_one (ds_ret (de_var 2)))))))
theorem sc_law_signs : FnScope ["_law_stream_here", "_law_many", "_law_start", "_law_step", "_law_k"] ["_law_stream_here", "_law_many"] (defScope s_law_signs) := ⟨rfl, rfl, rfl, by decide +kernel, rfl, by decide +kernel, by decide +kernel⟩
theorem bd_law_signs (T : Txt mg) (h__law_take : Has P w K mg base 2 "_law_take" ["_law_stream_here", "_law_many"] f_law_take) : Body P w K mg base 2 "_law_signs" s_law_signs ["_law_stream_here", "_law_many", "_law_start", "_law_step", "_law_k"] [0] g_law_signs := fun f cdv A outer s H vs E hg hr => (dss_cons (ds_asg (de_tup (da_cons (de_callH h__law_take hg (hr.mono (by decide)) (dr_b 0 (dr_d de_int dr_nil))) (da_cons (de_bin od_add de_int (de_bin od_mul de_int (de_callH h__law_take hg (hr.mono (by decide)) (dr_b 0 (dr_d de_int dr_nil))))) da_nil))) (dg_tup (dgs_cons (dg_name 2 sc_law_signs.nd) (dgs_cons (dg_name 3 sc_law_signs.nd) dgs_nil))) (nx_tup (nx_cons (nx_name 2) (nx_cons (nx_name 3) nx_nil)))) (dss_one (ds_ret (de_comp [("_law_k", 4)] sc_law_signs.nd (di_range1 T.b_range (da_cons (de_var 1) da_nil)) (blkOk_by (by kernel_rfl)) (fun _ _ _ _ _ => (dg_name 4 sc_law_signs.nd)) (fun _ _ _ _ _ => dts_nil) (fun _ _ _ _ _ => (de_ixA hr de_str (de_bin od_mod (de_bin od_add (de_var 2) (de_bin od_mul (de_var 3) (de_var 4))) de_int)))))))
theorem sc_law_side : FnScope ["_law_stream_here", "_law_signs_here", "_law_end"] ["_law_stream_here", "_law_signs_here", "_law_end"] (defScope s_law_side) := ⟨rfl, rfl, rfl, by decide +kernel, rfl, by decide +kernel, by decide +kernel⟩
theorem bd_law_side (T : Txt mg) (h__law_take : Has P w K mg base 2 "_law_take" ["_law_stream_here", "_law_many"] f_law_take) : Body P w K mg base 2 "_law_side" s_law_side ["_law_stream_here", "_law_signs_here", "_law_end"] [0] g_law_side := fun f cdv A outer s H vs E hg hr => (dss_one (ds_ret (de_ixA hr (de_bin od_add (de_var 1) (de_lst (da_cons (de_var 2) (da_cons de_str da_nil)))) (de_callH h__law_take hg (hr.mono (by decide)) (dr_b 0 (dr_d (de_bin od_add (de_callB cb_len T.b_len (da_cons (de_var 1) da_nil)) de_int) dr_nil))))))
theorem sc_law_rule : FnScope ["_law_stream_here", "_law_signs_here", "_law_ahead", "_law_behind", "_law_letter", "_law_near"] ["_law_stream_here", "_law_signs_here"] (defScope s_law_rule) := ⟨rfl, rfl, rfl, by decide +kernel, rfl, by decide +kernel, by decide +kernel⟩
theorem bd_law_rule (T : Txt mg) (h__law_side : Has P w K mg base 3 "_law_side" ["_law_stream_here", "_law_signs_here", "_law_end"] f_law_side) (h__law_take : Has P w K mg base 2 "_law_take" ["_law_stream_here", "_law_many"] f_law_take) : Body P w K mg base 3 "_law_rule" s_law_rule ["_law_stream_here", "_law_signs_here", "_law_ahead", "_law_behind", "_law_letter", "_law_near"] [0] g_law_rule := fun f cdv A outer s H vs E hg hr => (dss_cons (ds_par2 2 3 sc_law_rule.nd (da_cons (de_callH h__law_side hg (hr.mono (by decide)) (dr_b 0 (dr_d (de_var 1) (dr_d de_str dr_nil)))) (da_cons (de_callH h__law_side hg (hr.mono (by decide)) (dr_b 0 (dr_d (de_var 1) (dr_d de_str dr_nil)))) da_nil))) (dss_cons (ds_par2 4 5 sc_law_rule.nd (da_cons (de_ixA hr (de_var 1) (de_callH h__law_take hg (hr.mono (by decide)) (dr_b 0 (dr_d (de_callB cb_len T.b_len (da_cons (de_var 1) da_nil)) dr_nil)))) (da_cons (de_callH h__law_take hg (hr.mono (by decide)) (dr_b 0 (dr_d de_int dr_nil))) da_nil))) (dss_one (ds_ret (de_tup (da_cons (de_var 2) (da_cons (de_var 4) (da_cons (de_var 3) (da_cons (de_if (dt_cmp (od_eqA hr) (de_var 5) de_int) (de_callH h__law_take hg (hr.mono (by decide)) (dr_b 0 (dr_d de_int dr_nil))) (de_var 5)) da_nil)))))))))
theorem sc_law_rules : FnScope ["_law_stream_here", "_law_signs_here", "_law_many", "_law_found", "_law_k", "_law_rule_here", "_law_elder"] ["_law_stream_here", "_law_signs_here", "_law_many"] (defScope s_law_rules) := ⟨rfl, rfl, rfl, by decide +kernel, rfl, by decide +kernel, by decide +kernel⟩
theorem bd_law_rules (T : Txt mg) (h__law_rule : Has P w K mg base 4 "_law_rule" ["_law_stream_here", "_law_signs_here"] f_law_rule) (h__law_take : Has P w K mg base 2 "_law_take" ["_law_stream_here", "_law_many"] f_law_take) : Body P w K mg base 4 "_law_rules" s_law_rules ["_law_stream_here", "_law_signs_here", "_law_many", "_law_found", "_law_k", "_law_rule_here", "_law_elder"] [0] g_law_rules := fun f cdv A outer s H vs E hg hr => (dss_cons (ds_setM 3 sc_law_rules.nd (dm_lst da_nil)) (dss_cons (ds_for (di_range1 T.b_range (da_cons (de_var 2) da_nil)) (dg_name 4 sc_law_rules.nd) (dss_cons (ds_set 5 sc_law_rules.nd (de_callH h__law_rule hg (hr.mono (by decide)) (dr_b 0 (dr_d (de_var 1) dr_nil)))) (dss_cons (ds_if (dt_w (dw_and (dt_neP 3 hr (de_lst da_nil)) (dw_and1 (dt_cmp (od_eqA hr) (de_callH h__law_take hg (hr.mono (by decide)) (dr_b 0 (dr_d de_int dr_nil))) de_int)))) (dss_cons (ds_set 6 sc_law_rules.nd (de_ixPA 3 hr (de_callH h__law_take hg (hr.mono (by decide)) (dr_b 0 (dr_d (de_lenP 3 T.b_len) dr_nil))))) (dss_one (ds_set 5 sc_law_rules.nd (de_if (dt_cmp (od_eqA hr) (de_callH h__law_take hg (hr.mono (by decide)) (dr_b 0 (dr_d de_int dr_nil))) de_int) (de_var 6) (de_bin od_add (de_sl (de_var 6) do_none (do_some de_int)) (de_sl (de_var 5) (do_some de_int) do_none)))))) dss_nil) (dss_one (ds_append 3 (de_var 5))))) PassesOwn.never) (dss_one (ds_ret (de_callT cb_tuple T.b_tuple (da_cons (de_var 3) da_nil))))))
theorem sc_law_cost : FnScope ["_law_rules_here", "_law_trio", "_law_costs", "_law_ahead", "_law_letter", "_law_behind", "_law_cost_here"] ["_law_rules_here", "_law_trio"] (defScope s_law_cost) := ⟨rfl, rfl, rfl, by decide +kernel, rfl, by decide +kernel, by decide +kernel⟩
theorem bd_law_cost (T : Txt mg) : Body P w K mg base 0 "_law_cost" s_law_cost ["_law_rules_here", "_law_trio", "_law_costs", "_law_ahead", "_law_letter", "_law_behind", "_law_cost_here"] [] g_law_cost := fun f cdv A outer s H vs E hg hr => (dss_cons (ds_setM 2 sc_law_cost.nd (dm_lst da_nil)) (dss_cons (ds_for (di_any (de_var 0)) (dg_tup (dgs_cons (dg_name 3 sc_law_cost.nd) (dgs_cons (dg_name 4 sc_law_cost.nd) (dgs_cons (dg_name 5 sc_law_cost.nd) (dgs_cons (dg_name 6 sc_law_cost.nd) dgs_nil))))) (dss_one (ds_if (dt_w (dw_and (dt_cmp (od_eqA hr) (de_var 4) (de_ixA hr (de_var 1) de_int)) (dw_and (dt_cmp (od_inA hr) (de_var 3) (de_tup (da_cons (de_ixA hr (de_var 1) de_int) (da_cons de_str da_nil)))) (dw_and1 (dt_cmp (od_inA hr) (de_var 5) (de_tup (da_cons (de_ixA hr (de_var 1) de_int) (da_cons de_str da_nil)))))))) (dss_one (ds_append 2 (de_var 6))) dss_nil)) PassesOwn.never) (dss_one (ds_ret (de_if (dt_neP 2 hr (de_lst da_nil)) (de_callB cb_min T.b_min (da_cons (de_var 2) da_nil)) de_non)))))
theorem sc_law_trios : FnScope ["_law_signs_here", "_law_ahead", "_law_some", "_law_found", "_law_letter", "_law_behind"] ["_law_signs_here"] (defScope s_law_trios) := ⟨rfl, rfl, rfl, by decide +kernel, rfl, by decide +kernel, by decide +kernel⟩
theorem bd_law_trios (T : Txt mg) : Body P w K mg base 0 "_law_trios" s_law_trios ["_law_signs_here", "_law_ahead", "_law_some", "_law_found", "_law_letter", "_law_behind"] [] g_law_trios := fun f cdv A outer s H vs E hg hr => (dss_cons (ds_parDM 2 3 sc_law_trios.nd (de_callB cb_sorted T.b_sorted (da_cons (de_var 0) da_nil)) (dm_lst da_nil)) (dss_cons (ds_for (di_any (de_bin od_add (de_lst (da_cons de_str da_nil)) (de_var 2))) (dg_name 1 sc_law_trios.nd) (dss_one (ds_for (di_any (de_var 2)) (dg_name 4 sc_law_trios.nd) (dss_one (ds_extend 3 (dm_comp [("_law_behind", 5)] sc_law_trios.nd (di_any (de_bin od_add (de_lst (da_cons de_str da_nil)) (de_var 2))) (blkOk_by (by kernel_rfl)) (fun _ _ _ _ _ => (dg_name 5 sc_law_trios.nd)) (fun _ _ _ _ _ => dts_nil) (fun _ _ _ _ _ => (de_tup (da_cons (de_var 1) (da_cons (de_var 4) (da_cons (de_var 5) da_nil)))))))) PassesOwn.never)) PassesOwn.never) (dss_one (ds_ret (de_var 3)))))
theorem sc_law_met : FnScope ["_law_one_side", "_law_other_side"] ["_law_one_side", "_law_other_side"] (defScope s_law_met) := ⟨rfl, rfl, rfl, by decide +kernel, rfl, by decide +kernel, by decide +kernel⟩
theorem bd_law_met (T : Txt mg) : Body P w K mg base 0 "_law_met" s_law_met ["_law_one_side", "_law_other_side"] [] g_law_met := fun f cdv A outer s H vs E hg hr => (dss_cons (ds_if (dt_cmp (od_inA hr) de_str (de_tup (da_cons (de_var 0) (da_cons (de_var 1) da_nil)))) (dss_one (ds_ret (de_if (dt_cmp (od_eqA hr) (de_var 1) de_str) (de_var 0) (de_var 1)))) dss_nil) (dss_one (ds_ret (de_if (dt_cmp (od_eqA hr) (de_var 0) (de_var 1)) (de_var 0) de_str))))
theorem sc_law_once : FnScope ["_law_rows", "_law_at", "_law_row"] ["_law_rows"] (defScope s_law_once) := ⟨rfl, rfl, rfl, by decide +kernel, rfl, by decide +kernel, by decide +kernel⟩
theorem bd_law_once (T : Txt mg) : Body P w K mg base 0 "_law_once" s_law_once ["_law_rows", "_law_at", "_law_row"] [] g_law_once := fun f cdv A outer s H vs E hg hr => (dss_one (ds_ret (de_callT cb_tuple T.b_tuple (da_cons (de_comp [("_law_at", 1), ("_law_row", 2)] sc_law_once.nd (di_enum T.b_enumerate (da_cons (de_var 0) da_nil)) (blkOk_by (by kernel_rfl)) (fun _ _ _ _ _ => (dg_tup (dgs_cons (dg_name 1 sc_law_once.nd) (dgs_cons (dg_name 2 sc_law_once.nd) dgs_nil)))) (fun _ _ _ _ _ => (dts_one (dt_cmp (od_ninA hr) (de_var 2) (de_sl (de_var 0) do_none (do_some (de_var 1)))))) (fun _ _ _ _ _ => (de_var 2))) da_nil))))
theorem sc_law_both_due : FnScope ["_law_first", "_law_second", "_law_rows", "_law_rule_here", "_law_far", "_law_met_here"] ["_law_first", "_law_second"] (defScope s_law_both_due) := ⟨rfl, rfl, rfl, by decide +kernel, rfl, by decide +kernel, by decide +kernel⟩
theorem bd_law_both_due (T : Txt mg) (h__law_met : Has P w K mg base 1 "_law_met" ["_law_one_side", "_law_other_side"] f_law_met) (h__law_once : Has P w K mg base 1 "_law_once" ["_law_rows"] f_law_once) : Body P w K mg base 1 "_law_both_due" s_law_both_due ["_law_first", "_law_second", "_law_rows", "_law_rule_here", "_law_far", "_law_met_here"] [] g_law_both_due := fun f cdv A outer s H vs E hg hr => (dss_cons (ds_setM 2 sc_law_both_due.nd (dm_lst da_nil)) (dss_cons (ds_for (di_any (de_var 0)) (dg_name 3 sc_law_both_due.nd) (dss_one (ds_for (di_any (de_var 1)) (dg_name 4 sc_law_both_due.nd) (dss_cons (ds_set 5 sc_law_both_due.nd (de_tup (da_cons (de_callH h__law_met hg (hr.mono (by decide)) (dr_d (de_ixA hr (de_var 3) de_int) (dr_d (de_ixA hr (de_var 4) de_int) dr_nil))) (da_cons (de_ixA hr (de_var 3) de_int) (da_cons (de_callH h__law_met hg (hr.mono (by decide)) (dr_d (de_ixA hr (de_var 3) de_int) (dr_d (de_ixA hr (de_var 4) de_int) dr_nil))) (da_cons (de_callB cb_max T.b_max (da_cons (de_ixA hr (de_var 3) de_int) (da_cons (de_ixA hr (de_var 4) de_int) da_nil))) da_nil)))))) (dss_one (ds_if (dt_w (dw_and (dt_cmp (od_eqA hr) (de_ixA hr (de_var 3) de_int) (de_ixA hr (de_var 4) de_int)) (dw_and1 (dt_cmp (od_ninA hr) de_str (de_var 5))))) (dss_one (ds_append 2 (de_var 5))) dss_nil))) PassesOwn.never)) PassesOwn.never) (dss_one (ds_ret (de_callH h__law_once hg (hr.mono (by decide)) (dr_d (de_var 2) dr_nil))))))
theorem sc_law_two_right : FnScope ["_law_first", "_law_second", "_law_signs_here", "_law_due", "_law_named", "_law_trio", "_law_pairs", "_law_wide", "_law_narrow", "_law_costs", "_law_cost_here", "_law_near", "_law_far"] ["_law_first", "_law_second", "_law_signs_here"] (defScope s_law_two_right) := ⟨rfl, rfl, rfl, by decide +kernel, rfl, by decide +kernel, by decide +kernel⟩
theorem bd_law_two_right (T : Txt mg) (h_both : Has P w K mg base 5 "both" ["one", "other"] fboth) (h_either : Has P w K mg base 5 "either" ["one", "other"] feither) (h__law_both_due : Has P w K mg base 2 "_law_both_due" ["_law_first", "_law_second"] f_law_both_due) (h__law_once : Has P w K mg base 1 "_law_once" ["_law_rows"] f_law_once) (h__law_trios : Has P w K mg base 1 "_law_trios" ["_law_signs_here"] f_law_trios) (h__law_cost : Has P w K mg base 1 "_law_cost" ["_law_rules_here", "_law_trio"] f_law_cost) (h_price : Has P w K mg base 5 "price" ["book", "case"] fprice) (h_is_within : Has P w K mg base 6 "is_within" ["one", "other"] fis_within) (k_either_0_other_one : HasK P w K mg base 5 "either" ["one", "other"] feither 0 ["other", "one"] [.inl 1, .inl 0] []) (k_both_0_other_one : HasK P w K mg base 5 "both" ["one", "other"] fboth 0 ["other", "one"] [.inl 1, .inl 0] []) : Body P w K mg base 6 "_law_two_right" s_law_two_right ["_law_first", "_law_second", "_law_signs_here", "_law_due", "_law_named", "_law_trio", "_law_pairs", "_law_wide", "_law_narrow", "_law_costs", "_law_cost_here", "_law_near", "_law_far"] [] g_law_two_right := fun f cdv A outer s H vs E hg hr => (dss_cons (ds_par2 7 8 sc_law_two_right.nd (da_cons (de_callH h_either hg (hr.mono (by decide)) (dr_d (de_var 0) (dr_d (de_var 1) dr_nil))) (da_cons (de_callH h_both hg (hr.mono (by decide)) (dr_d (de_var 0) (dr_d (de_var 1) dr_nil))) da_nil))) (dss_cons (ds_set 3 sc_law_two_right.nd (de_lst (da_cons (de_callH h__law_once hg (hr.mono (by decide)) (dr_d (de_bin od_add (de_callT cb_list T.b_list (da_cons (de_var 0) da_nil)) (de_callT cb_list T.b_list (da_cons (de_var 1) da_nil))) dr_nil)) (da_cons (de_callH h__law_both_due hg (hr.mono (by decide)) (dr_d (de_var 0) (dr_d (de_var 1) dr_nil))) da_nil)))) (dss_cons (ds_set 4 sc_law_two_right.nd (de_lst (da_cons (de_callHK0 k_either_0_other_one hg (hr.mono (by decide)) (dk_cons (de_var 1) (dk_cons (de_var 0) dk_nil))) (da_cons (de_callHK0 k_both_0_other_one hg (hr.mono (by decide)) (dk_cons (de_var 1) (dk_cons (de_var 0) dk_nil))) da_nil)))) (dss_cons (ds_if (dt_w (dw_or (dt_cmp (od_ne hr) (de_callB (cb_repr hg hr) T.b_repr (da_cons (de_lst (da_cons (de_var 7) (da_cons (de_var 8) da_nil))) da_nil)) (de_callB (cb_repr hg hr) T.b_repr (da_cons (de_var 3) da_nil))) (dw_or1 (dt_cmp (od_ne hr) (de_callB (cb_repr hg hr) T.b_repr (da_cons (de_var 4) da_nil)) (de_callB (cb_repr hg hr) T.b_repr (da_cons (de_var 3) da_nil)))))) (dss_one (ds_ret de_bl)) dss_nil) (dss_cons (ds_for (di_any (de_callH h__law_trios hg (hr.mono (by decide)) (dr_d (de_var 2) dr_nil))) (dg_name 5 sc_law_two_right.nd) (dss_cons (ds_setLc 9 [("_law_cost_here", 10)] sc_law_two_right.nd (di_any (de_tup (da_cons (de_callH h__law_cost hg (hr.mono (by decide)) (dr_d (de_var 0) (dr_d (de_var 5) dr_nil))) (da_cons (de_callH h__law_cost hg (hr.mono (by decide)) (dr_d (de_var 1) (dr_d (de_var 5) dr_nil))) da_nil)))) (blkOk_by (by kernel_rfl)) (fun _ _ _ _ _ => (dg_name 10 sc_law_two_right.nd)) (fun _ _ _ _ _ => (dts_one (dt_cmp od_isn (de_var 10) de_non))) (fun _ _ _ _ _ => (de_var 10)) (sw_true rfl rfl rfl rfl)) (dss_cons (ds_if (dt_cmp (od_ne hr) (de_callH h_price hg (hr.mono (by decide)) (dr_d (de_var 7) (dr_d (de_var 5) dr_nil))) (de_if (dt_cmp (od_ne hr) (de_var 9) (de_lst da_nil)) (de_callB cb_min T.b_min (da_cons (de_var 9) da_nil)) de_non)) (dss_one (ds_ret de_bl)) dss_nil) (dss_one (ds_if (dt_cmp (od_ne hr) (de_callH h_price hg (hr.mono (by decide)) (dr_d (de_var 8) (dr_d (de_var 5) dr_nil))) (de_if (dt_cmp (od_eqA hr) (de_callB cb_len T.b_len (da_cons (de_var 9) da_nil)) de_int) (de_callB cb_max T.b_max (da_cons (de_var 9) da_nil)) de_non)) (dss_one (ds_ret de_bl)) dss_nil)))) PassesOwn.never) (dss_cons (ds_set 6 sc_law_two_right.nd (de_lst (da_cons (de_tup (da_cons (de_var 0) (da_cons (de_var 7) da_nil))) (da_cons (de_tup (da_cons (de_var 1) (da_cons (de_var 7) da_nil))) (da_cons (de_tup (da_cons (de_var 8) (da_cons (de_var 0) da_nil))) (da_cons (de_tup (da_cons (de_var 8) (da_cons (de_var 1) da_nil))) da_nil)))))) (dss_one (ds_ret (de_callB cb_all T.b_all (da_cons (de_comp [("_law_near", 11), ("_law_far", 12)] sc_law_two_right.nd (di_any (de_var 6)) (blkOk_by (by kernel_rfl)) (fun _ _ _ _ _ => (dg_tup (dgs_cons (dg_name 11 sc_law_two_right.nd) (dgs_cons (dg_name 12 sc_law_two_right.nd) dgs_nil)))) (fun _ _ _ _ _ => dts_nil) (fun _ _ _ _ _ => (de_cmp od_is (de_callH h_is_within hg (hr.mono (by decide)) (dr_d (de_var 11) (dr_d (de_var 12) dr_nil))) de_bl))) da_nil))))))))))
theorem sc_law_least_and_greatest : FnScope ["_law_first", "_law_second", "_law_third", "_law_pairs", "_law_near", "_law_far"] ["_law_first", "_law_second", "_law_third"] (defScope s_law_least_and_greatest) := ⟨rfl, rfl, rfl, by decide +kernel, rfl, by decide +kernel, by decide +kernel⟩
theorem bd_law_least_and_greatest (T : Txt mg) (h_both : Has P w K mg base 5 "both" ["one", "other"] fboth) (h_either : Has P w K mg base 5 "either" ["one", "other"] feither) (h_same : Has P w K mg base 6 "same" ["one", "other"] fsame) : Body P w K mg base 6 "_law_least_and_greatest" s_law_least_and_greatest ["_law_first", "_law_second", "_law_third", "_law_pairs", "_law_near", "_law_far"] [] g_law_least_and_greatest := fun f cdv A outer s H vs E hg hr => (dss_cons (ds_setM 3 sc_law_least_and_greatest.nd (dm_lst (da_cons (de_tup (da_cons (de_callH h_either hg (hr.mono (by decide)) (dr_d (de_var 0) (dr_d (de_var 0) dr_nil))) (da_cons (de_var 0) da_nil))) (da_cons (de_tup (da_cons (de_callH h_both hg (hr.mono (by decide)) (dr_d (de_var 0) (dr_d (de_var 0) dr_nil))) (da_cons (de_var 0) da_nil))) da_nil)))) (dss_cons (ds_setM 3 sc_law_least_and_greatest.nd (dm_cat (de_var 3) (de_lst (da_cons (de_tup (da_cons (de_callH h_either hg (hr.mono (by decide)) (dr_d (de_var 0) (dr_d (de_var 1) dr_nil))) (da_cons (de_callH h_either hg (hr.mono (by decide)) (dr_d (de_var 1) (dr_d (de_var 0) dr_nil))) da_nil))) (da_cons (de_tup (da_cons (de_callH h_both hg (hr.mono (by decide)) (dr_d (de_var 0) (dr_d (de_var 1) dr_nil))) (da_cons (de_callH h_both hg (hr.mono (by decide)) (dr_d (de_var 1) (dr_d (de_var 0) dr_nil))) da_nil))) da_nil))))) (dss_cons (ds_setM 3 sc_law_least_and_greatest.nd (dm_cat (de_var 3) (de_lst (da_cons (de_tup (da_cons (de_callH h_either hg (hr.mono (by decide)) (dr_d (de_var 0) (dr_d (de_callH h_both hg (hr.mono (by decide)) (dr_d (de_var 0) (dr_d (de_var 1) dr_nil))) dr_nil))) (da_cons (de_var 0) da_nil))) (da_cons (de_tup (da_cons (de_callH h_both hg (hr.mono (by decide)) (dr_d (de_var 0) (dr_d (de_callH h_either hg (hr.mono (by decide)) (dr_d (de_var 0) (dr_d (de_var 1) dr_nil))) dr_nil))) (da_cons (de_var 0) da_nil))) da_nil))))) (dss_cons (ds_append 3 (de_tup (da_cons (de_callH h_either hg (hr.mono (by decide)) (dr_d (de_callH h_either hg (hr.mono (by decide)) (dr_d (de_var 0) (dr_d (de_var 1) dr_nil))) (dr_d (de_var 2) dr_nil))) (da_cons (de_callH h_either hg (hr.mono (by decide)) (dr_d (de_var 0) (dr_d (de_callH h_either hg (hr.mono (by decide)) (dr_d (de_var 1) (dr_d (de_var 2) dr_nil))) dr_nil))) da_nil)))) (dss_cons (ds_append 3 (de_tup (da_cons (de_callH h_both hg (hr.mono (by decide)) (dr_d (de_var 0) (dr_d (de_callH h_either hg (hr.mono (by decide)) (dr_d (de_var 1) (dr_d (de_var 2) dr_nil))) dr_nil))) (da_cons (de_callH h_either hg (hr.mono (by decide)) (dr_d (de_callH h_both hg (hr.mono (by decide)) (dr_d (de_var 0) (dr_d (de_var 1) dr_nil))) (dr_d (de_callH h_both hg (hr.mono (by decide)) (dr_d (de_var 0) (dr_d (de_var 2) dr_nil))) dr_nil))) da_nil)))) (dss_cons (ds_append 3 (de_tup (da_cons (de_callH h_either hg (hr.mono (by decide)) (dr_d (de_var 0) (dr_d (de_callH h_both hg (hr.mono (by decide)) (dr_d (de_var 1) (dr_d (de_var 2) dr_nil))) dr_nil))) (da_cons (de_callH h_both hg (hr.mono (by decide)) (dr_d (de_callH h_either hg (hr.mono (by decide)) (dr_d (de_var 0) (dr_d (de_var 1) dr_nil))) (dr_d (de_callH h_either hg (hr.mono (by decide)) (dr_d (de_var 0) (dr_d (de_var 2) dr_nil))) dr_nil))) da_nil)))) (dss_one (ds_ret (de_callB cb_all T.b_all (da_cons (de_comp [("_law_near", 4), ("_law_far", 5)] sc_law_least_and_greatest.nd (di_any (de_var 3)) (blkOk_by (by kernel_rfl)) (fun _ _ _ _ _ => (dg_tup (dgs_cons (dg_name 4 sc_law_least_and_greatest.nd) (dgs_cons (dg_name 5 sc_law_least_and_greatest.nd) dgs_nil)))) (fun _ _ _ _ _ => dts_nil) (fun _ _ _ _ _ => (de_cmp od_is (de_callH h_same hg (hr.mono (by decide)) (dr_d (de_var 4) (dr_d (de_var 5) dr_nil))) de_bl))) da_nil))))))))))
theorem sclaw : FnScope ["_law_script", "_law_k", "_law_cell", "_law_stream_here", "_law_signs_here", "_law_first", "_law_second", "_law_third"] ["_law_script"] (defScope slaw) := ⟨rfl, rfl, rfl, by decide +kernel, rfl, by decide +kernel, by decide +kernel⟩
theorem bdlaw (T : Txt mg) (h__law_stream : Has P w K mg base 2 "_law_stream" ["_law_cell", "_law_k"] f_law_stream) (h__law_signs : Has P w K mg base 3 "_law_signs" ["_law_stream_here", "_law_many"] f_law_signs) (h__law_take : Has P w K mg base 2 "_law_take" ["_law_stream_here", "_law_many"] f_law_take) (h__law_rules : Has P w K mg base 5 "_law_rules" ["_law_stream_here", "_law_signs_here", "_law_many"] f_law_rules) (h__law_two_right : Has P w K mg base 7 "_law_two_right" ["_law_first", "_law_second", "_law_signs_here"] f_law_two_right) (h__law_least_and_greatest : Has P w K mg base 7 "_law_least_and_greatest" ["_law_first", "_law_second", "_law_third"] f_law_least_and_greatest) : Body P w K mg base 7 "law" slaw ["_law_script", "_law_k", "_law_cell", "_law_stream_here", "_law_signs_here", "_law_first", "_law_second", "_law_third"] [] glaw := fun f cdv A outer s H vs E hg hr => (dss_cons (ds_for (di_enum T.b_enumerate (da_cons (de_sl (de_bin od_add (de_var 0) (de_lst (da_cons de_int da_nil))) do_none (do_some de_int)) da_nil)) (dg_tup (dgs_cons (dg_name 1 sclaw.nd) (dgs_cons (dg_name 2 sclaw.nd) dgs_nil))) (dss_cons (ds_setM 3 sclaw.nd (dm_callH h__law_stream hg (hr.mono (by decide)) (dr_d (de_var 2) (dr_d (de_var 1) dr_nil)))) (dss_cons (ds_set 4 sclaw.nd (de_callH h__law_signs hg (hr.mono (by decide)) (dr_b 3 (dr_d (de_bin od_add de_int (de_callH h__law_take hg (hr.mono (by decide)) (dr_b 3 (dr_d de_int dr_nil)))) dr_nil)))) (dss_cons (ds_set 5 sclaw.nd (de_callH h__law_rules hg (hr.mono (by decide)) (dr_b 3 (dr_d (de_var 4) (dr_d (de_callH h__law_take hg (hr.mono (by decide)) (dr_b 3 (dr_d de_int dr_nil))) dr_nil))))) (dss_cons (ds_set 6 sclaw.nd (de_callH h__law_rules hg (hr.mono (by decide)) (dr_b 3 (dr_d (de_var 4) (dr_d (de_callH h__law_take hg (hr.mono (by decide)) (dr_b 3 (dr_d de_int dr_nil))) dr_nil))))) (dss_cons (ds_set 7 sclaw.nd (de_callH h__law_rules hg (hr.mono (by decide)) (dr_b 3 (dr_d (de_var 4) (dr_d (de_callH h__law_take hg (hr.mono (by decide)) (dr_b 3 (dr_d de_int dr_nil))) dr_nil))))) (dss_cons (ds_if (dt_w (dw_and (dt_cmp (od_ne hr) (de_var 5) (de_tup da_nil)) (dw_and1 (dt_cmp (od_eqA hr) (de_callH h__law_take hg (hr.mono (by decide)) (dr_b 3 (dr_d de_int dr_nil))) de_int)))) (dss_one (ds_set 6 sclaw.nd (de_bin od_add (de_sl (de_var 5) do_none (do_some de_int)) (de_sl (de_var 6) (do_some de_int) do_none)))) dss_nil) (dss_cons (ds_if (dt_w (dw_or (dt_not (dt_val (de_callH h__law_two_right hg (hr.mono (by decide)) (dr_d (de_var 5) (dr_d (de_var 6) (dr_d (de_var 4) dr_nil)))))) (dw_or1 (dt_not (dt_val (de_callH h__law_two_right hg (hr.mono (by decide)) (dr_d (de_var 6) (dr_d (de_var 7) (dr_d (de_var 4) dr_nil))))))))) (dss_one (ds_ret de_bl)) dss_nil) (dss_one (ds_if (dt_not (dt_val (de_callH h__law_least_and_greatest hg (hr.mono (by decide)) (dr_d (de_var 5) (dr_d (de_var 6) (dr_d (de_var 7) dr_nil)))))) (dss_one (ds_ret de_bl)) dss_nil))))))))) PassesOwn.never) (dss_one (ds_ret de_bl)))
end
section
variable {P : Program} {w : World} {K : PySem.W.Frag} {mg : Str → Option Value} {base : Heap}
theorem all_ok (T : Txt mg) (Fis_whole : FunDAt K mg "is_whole" sis_whole [("least", flatOf (.int 0)), ("most", flatOf (.int 120))]) (Fis_letter : FunAt K mg "is_letter" sis_letter) (Fis_side : FunAt K mg "is_side" sis_side) (Frule_looks : FunAt K mg "rule_looks" srule_looks) (Fneed_book : FunAt K mg "need_book" sneed_book) (Fneed_case : FunAt K mg "need_case" sneed_case) (Ffits_case : FunAt K mg "fits_case" sfits_case) (Fprice_there : FunAt K mg "price_there" sprice_there) (Fprice : FunAt K mg "price" sprice) (Fsigns_for : FunAt K mg "signs_for" ssigns_for) (Frule_cases : FunAt K mg "rule_cases" srule_cases) (Fprice_table : FunAt K mg "price_table" sprice_table) (Ftwo_tables : FunAt K mg "two_tables" stwo_tables) (Fsame : FunAt K mg "same" ssame) (Fis_within : FunAt K mg "is_within" sis_within) (Feach_once : FunAt K mg "each_once" seach_once) (Feither : FunAt K mg "either" seither) (Fsides_met : FunAt K mg "sides_met" ssides_met) (Fboth : FunAt K mg "both" sboth) (F_law_mixed : FunAt K mg "_law_mixed" s_law_mixed) (F_law_stream : FunAt K mg "_law_stream" s_law_stream) (F_law_take : FunAt K mg "_law_take" s_law_take) (F_law_signs : FunAt K mg "_law_signs" s_law_signs) (F_law_side : FunAt K mg "_law_side" s_law_side) (F_law_rule : FunAt K mg "_law_rule" s_law_rule) (F_law_rules : FunAt K mg "_law_rules" s_law_rules) (F_law_cost : FunAt K mg "_law_cost" s_law_cost) (F_law_trios : FunAt K mg "_law_trios" s_law_trios) (F_law_met : FunAt K mg "_law_met" s_law_met) (F_law_once : FunAt K mg "_law_once" s_law_once) (F_law_both_due : FunAt K mg "_law_both_due" s_law_both_due) (F_law_two_right : FunAt K mg "_law_two_right" s_law_two_right) (F_law_least_and_greatest : FunAt K mg "_law_least_and_greatest" s_law_least_and_greatest) : Body P w K mg base 7 "law" slaw ["_law_script", "_law_k", "_law_cell", "_law_stream_here", "_law_signs_here", "_law_first", "_law_second", "_law_third"] [] glaw := by
  have B_is_whole := bdis_whole (P := P) (w := w) (K := K) (base := base) T 
  have k_is_whole_1_most : HasK P w K mg base 1 "is_whole" ["thing", "least", "most"] fis_whole 1 ["most"] [.inl 0, .inr 0, .inl 1] [.int 0] := hasD_of (ms := [("least", .int 0)]) Fis_whole scis_whole B_is_whole (by simp) (fun q hq => by simp at hq; simp [hq]) rfl rfl fun D doc pm an cdv ct us ws mv l1 l2 l3 => match us, ws, mv, l1, l2, l3 with | [_], [_], [_], _, _, _ => ⟨_, _, _, _, _, _, rfl, rfl, rfl⟩
  have B_is_letter := bdis_letter (P := P) (w := w) (K := K) (base := base) T 
  have h_is_letter : Has P w K mg base 1 "is_letter" ["thing"] fis_letter := has_of Fis_letter scis_letter B_is_letter fun _ _ _ _ _ _ us hl => match us, hl with | [_], _ => rfl
  have B_is_side := bdis_side (P := P) (w := w) (K := K) (base := base) T h_is_letter
  have h_is_side : Has P w K mg base 2 "is_side" ["thing", "end"] fis_side := has_of Fis_side scis_side B_is_side fun _ _ _ _ _ _ us hl => match us, hl with | [_, _], _ => rfl
  have B_rule_looks := bdrule_looks (P := P) (w := w) (K := K) (base := base) T h_is_side h_is_letter k_is_whole_1_most
  have h_rule_looks : Has P w K mg base 3 "rule_looks" ["thing"] frule_looks := has_of Frule_looks scrule_looks B_rule_looks fun _ _ _ _ _ _ us hl => match us, hl with | [_], _ => rfl
  have B_need_book := bdneed_book (P := P) (w := w) (K := K) (base := base) T h_rule_looks
  have h_need_book : Has P w K mg base 4 "need_book" ["thing"] fneed_book := has_of Fneed_book scneed_book B_need_book fun _ _ _ _ _ _ us hl => match us, hl with | [_], _ => rfl
  have B_need_case := bdneed_case (P := P) (w := w) (K := K) (base := base) T h_is_side h_is_letter
  have h_need_case : Has P w K mg base 3 "need_case" ["thing"] fneed_case := has_of Fneed_case scneed_case B_need_case fun _ _ _ _ _ _ us hl => match us, hl with | [_], _ => rfl
  have B_fits_case := bdfits_case (P := P) (w := w) (K := K) (base := base) T 
  have h_fits_case : Has P w K mg base 1 "fits_case" ["rule", "case"] ffits_case := has_of Ffits_case scfits_case B_fits_case fun _ _ _ _ _ _ us hl => match us, hl with | [_, _], _ => rfl
  have B_price_there := bdprice_there (P := P) (w := w) (K := K) (base := base) T h_fits_case
  have h_price_there : Has P w K mg base 2 "price_there" ["book", "case"] fprice_there := has_of Fprice_there scprice_there B_price_there fun _ _ _ _ _ _ us hl => match us, hl with | [_, _], _ => rfl
  have B_price := bdprice (P := P) (w := w) (K := K) (base := base) T h_need_book h_need_case h_price_there
  have h_price : Has P w K mg base 5 "price" ["book", "case"] fprice := has_of Fprice scprice B_price fun _ _ _ _ _ _ us hl => match us, hl with | [_, _], _ => rfl
  have B_signs_for := bdsigns_for (P := P) (w := w) (K := K) (base := base) T 
  have h_signs_for : Has P w K mg base 1 "signs_for" ["side", "end"] fsigns_for := has_of Fsigns_for scsigns_for B_signs_for fun _ _ _ _ _ _ us hl => match us, hl with | [_, _], _ => rfl
  have B_rule_cases := bdrule_cases (P := P) (w := w) (K := K) (base := base) T h_signs_for
  have h_rule_cases : Has P w K mg base 2 "rule_cases" ["rule"] frule_cases := has_of Frule_cases scrule_cases B_rule_cases fun _ _ _ _ _ _ us hl => match us, hl with | [_], _ => rfl
  have B_price_table := bdprice_table (P := P) (w := w) (K := K) (base := base) T h_rule_cases
  have h_price_table : Has P w K mg base 3 "price_table" ["book"] fprice_table := has_of Fprice_table scprice_table B_price_table fun _ _ _ _ _ _ us hl => match us, hl with | [_], _ => rfl
  have B_two_tables := bdtwo_tables (P := P) (w := w) (K := K) (base := base) T h_need_book h_price_table
  have h_two_tables : Has P w K mg base 5 "two_tables" ["one", "other"] ftwo_tables := has_of Ftwo_tables sctwo_tables B_two_tables fun _ _ _ _ _ _ us hl => match us, hl with | [_, _], _ => rfl
  have B_same := bdsame (P := P) (w := w) (K := K) (base := base) T h_two_tables
  have h_same : Has P w K mg base 6 "same" ["one", "other"] fsame := has_of Fsame scsame B_same fun _ _ _ _ _ _ us hl => match us, hl with | [_, _], _ => rfl
  have B_is_within := bdis_within (P := P) (w := w) (K := K) (base := base) T h_two_tables
  have h_is_within : Has P w K mg base 6 "is_within" ["one", "other"] fis_within := has_of Fis_within scis_within B_is_within fun _ _ _ _ _ _ us hl => match us, hl with | [_, _], _ => rfl
  have B_each_once := bdeach_once (P := P) (w := w) (K := K) (base := base) T 
  have h_each_once : Has P w K mg base 1 "each_once" ["rules"] feach_once := has_of Feach_once sceach_once B_each_once fun _ _ _ _ _ _ us hl => match us, hl with | [_], _ => rfl
  have B_either := bdeither (P := P) (w := w) (K := K) (base := base) T h_need_book h_each_once
  have h_either : Has P w K mg base 5 "either" ["one", "other"] feither := has_of Feither sceither B_either fun _ _ _ _ _ _ us hl => match us, hl with | [_, _], _ => rfl
  have k_either_0_other_one : HasK P w K mg base 5 "either" ["one", "other"] feither 0 ["other", "one"] [.inl 1, .inl 0] [] := hasK_of Feither sceither B_either rfl fun _ _ _ _ _ _ us ws l1 l2 => match us, ws, l1, l2 with | [], [_, _], _, _ => rfl
  have B_sides_met := bdsides_met (P := P) (w := w) (K := K) (base := base) T 
  have h_sides_met : Has P w K mg base 1 "sides_met" ["one", "other"] fsides_met := has_of Fsides_met scsides_met B_sides_met fun _ _ _ _ _ _ us hl => match us, hl with | [_, _], _ => rfl
  have B_both := bdboth (P := P) (w := w) (K := K) (base := base) T h_need_book h_sides_met h_each_once
  have h_both : Has P w K mg base 5 "both" ["one", "other"] fboth := has_of Fboth scboth B_both fun _ _ _ _ _ _ us hl => match us, hl with | [_, _], _ => rfl
  have k_both_0_other_one : HasK P w K mg base 5 "both" ["one", "other"] fboth 0 ["other", "one"] [.inl 1, .inl 0] [] := hasK_of Fboth scboth B_both rfl fun _ _ _ _ _ _ us ws l1 l2 => match us, ws, l1, l2 with | [], [_, _], _, _ => rfl
  have B__law_mixed := bd_law_mixed (P := P) (w := w) (K := K) (base := base) T 
  have h__law_mixed : Has P w K mg base 1 "_law_mixed" ["_law_number", "_law_k"] f_law_mixed := has_of F_law_mixed sc_law_mixed B__law_mixed fun _ _ _ _ _ _ us hl => match us, hl with | [_, _], _ => rfl
  have B__law_stream := bd_law_stream (P := P) (w := w) (K := K) (base := base) T h__law_mixed
  have h__law_stream : Has P w K mg base 2 "_law_stream" ["_law_cell", "_law_k"] f_law_stream := has_of F_law_stream sc_law_stream B__law_stream fun _ _ _ _ _ _ us hl => match us, hl with | [_, _], _ => rfl
  have B__law_take := bd_law_take (P := P) (w := w) (K := K) (base := base) T h__law_mixed
  have h__law_take : Has P w K mg base 2 "_law_take" ["_law_stream_here", "_law_many"] f_law_take := has_of F_law_take sc_law_take B__law_take fun _ _ _ _ _ _ us hl => match us, hl with | [_, _], _ => rfl
  have B__law_signs := bd_law_signs (P := P) (w := w) (K := K) (base := base) T h__law_take
  have h__law_signs : Has P w K mg base 3 "_law_signs" ["_law_stream_here", "_law_many"] f_law_signs := has_of F_law_signs sc_law_signs B__law_signs fun _ _ _ _ _ _ us hl => match us, hl with | [_, _], _ => rfl
  have B__law_side := bd_law_side (P := P) (w := w) (K := K) (base := base) T h__law_take
  have h__law_side : Has P w K mg base 3 "_law_side" ["_law_stream_here", "_law_signs_here", "_law_end"] f_law_side := has_of F_law_side sc_law_side B__law_side fun _ _ _ _ _ _ us hl => match us, hl with | [_, _, _], _ => rfl
  have B__law_rule := bd_law_rule (P := P) (w := w) (K := K) (base := base) T h__law_side h__law_take
  have h__law_rule : Has P w K mg base 4 "_law_rule" ["_law_stream_here", "_law_signs_here"] f_law_rule := has_of F_law_rule sc_law_rule B__law_rule fun _ _ _ _ _ _ us hl => match us, hl with | [_, _], _ => rfl
  have B__law_rules := bd_law_rules (P := P) (w := w) (K := K) (base := base) T h__law_rule h__law_take
  have h__law_rules : Has P w K mg base 5 "_law_rules" ["_law_stream_here", "_law_signs_here", "_law_many"] f_law_rules := has_of F_law_rules sc_law_rules B__law_rules fun _ _ _ _ _ _ us hl => match us, hl with | [_, _, _], _ => rfl
  have B__law_cost := bd_law_cost (P := P) (w := w) (K := K) (base := base) T 
  have h__law_cost : Has P w K mg base 1 "_law_cost" ["_law_rules_here", "_law_trio"] f_law_cost := has_of F_law_cost sc_law_cost B__law_cost fun _ _ _ _ _ _ us hl => match us, hl with | [_, _], _ => rfl
  have B__law_trios := bd_law_trios (P := P) (w := w) (K := K) (base := base) T 
  have h__law_trios : Has P w K mg base 1 "_law_trios" ["_law_signs_here"] f_law_trios := has_of F_law_trios sc_law_trios B__law_trios fun _ _ _ _ _ _ us hl => match us, hl with | [_], _ => rfl
  have B__law_met := bd_law_met (P := P) (w := w) (K := K) (base := base) T 
  have h__law_met : Has P w K mg base 1 "_law_met" ["_law_one_side", "_law_other_side"] f_law_met := has_of F_law_met sc_law_met B__law_met fun _ _ _ _ _ _ us hl => match us, hl with | [_, _], _ => rfl
  have B__law_once := bd_law_once (P := P) (w := w) (K := K) (base := base) T 
  have h__law_once : Has P w K mg base 1 "_law_once" ["_law_rows"] f_law_once := has_of F_law_once sc_law_once B__law_once fun _ _ _ _ _ _ us hl => match us, hl with | [_], _ => rfl
  have B__law_both_due := bd_law_both_due (P := P) (w := w) (K := K) (base := base) T h__law_met h__law_once
  have h__law_both_due : Has P w K mg base 2 "_law_both_due" ["_law_first", "_law_second"] f_law_both_due := has_of F_law_both_due sc_law_both_due B__law_both_due fun _ _ _ _ _ _ us hl => match us, hl with | [_, _], _ => rfl
  have B__law_two_right := bd_law_two_right (P := P) (w := w) (K := K) (base := base) T h_both h_either h__law_both_due h__law_once h__law_trios h__law_cost h_price h_is_within k_either_0_other_one k_both_0_other_one
  have h__law_two_right : Has P w K mg base 7 "_law_two_right" ["_law_first", "_law_second", "_law_signs_here"] f_law_two_right := has_of F_law_two_right sc_law_two_right B__law_two_right fun _ _ _ _ _ _ us hl => match us, hl with | [_, _, _], _ => rfl
  have B__law_least_and_greatest := bd_law_least_and_greatest (P := P) (w := w) (K := K) (base := base) T h_both h_either h_same
  have h__law_least_and_greatest : Has P w K mg base 7 "_law_least_and_greatest" ["_law_first", "_law_second", "_law_third"] f_law_least_and_greatest := has_of F_law_least_and_greatest sc_law_least_and_greatest B__law_least_and_greatest fun _ _ _ _ _ _ us hl => match us, hl with | [_, _, _], _ => rfl
  have B_law := bdlaw (P := P) (w := w) (K := K) (base := base) T h__law_stream h__law_signs h__law_take h__law_rules h__law_two_right h__law_least_and_greatest
  exact B_law
end
end FDL

namespace FDL
open PySem L2 FD
theorem con_int {mg : Str → Option Value} {x : Str} {i : Int} {t : Tok} (h : mg x = some (.int i t)) : Con mg x (.int i) := ⟨rfl, _, h, ⟨t, rfl⟩⟩
theorem con_str {mg : Str → Option Value} {x s : Str} {t : Tok} (h : mg x = some (.str s t)) : Con mg x (.str s) := ⟨rfl, _, h, ⟨t, rfl⟩⟩
theorem all_mk {l : PySem.W.OpenLaw} {w : World} {K : PySem.W.Frag} {h : Heap} {mg : Str → Option Value} {fa : Addr} {f0 : Addr} {oc0 dc0 pm0 cd0 ct0 : Value} {od0 an0 : Option Addr} {sl0 : Array (Option Value)} {D0 : Addr} {t0_0 : Tok} {t0_1 : Tok} {f1 : Addr} {oc1 kV1 dc1 pm1 cd1 ct1 : Value} {od1 an1 : Option Addr} {sl1 : Array (Option Value)} {f2 : Addr} {oc2 kV2 dc2 pm2 cd2 ct2 : Value} {od2 an2 : Option Addr} {sl2 : Array (Option Value)} {f3 : Addr} {oc3 kV3 dc3 pm3 cd3 ct3 : Value} {od3 an3 : Option Addr} {sl3 : Array (Option Value)} {f4 : Addr} {oc4 kV4 dc4 pm4 cd4 ct4 : Value} {od4 an4 : Option Addr} {sl4 : Array (Option Value)} {f5 : Addr} {oc5 kV5 dc5 pm5 cd5 ct5 : Value} {od5 an5 : Option Addr} {sl5 : Array (Option Value)} {f6 : Addr} {oc6 kV6 dc6 pm6 cd6 ct6 : Value} {od6 an6 : Option Addr} {sl6 : Array (Option Value)} {f7 : Addr} {oc7 kV7 dc7 pm7 cd7 ct7 : Value} {od7 an7 : Option Addr} {sl7 : Array (Option Value)} {f8 : Addr} {oc8 kV8 dc8 pm8 cd8 ct8 : Value} {od8 an8 : Option Addr} {sl8 : Array (Option Value)} {f9 : Addr} {oc9 kV9 dc9 pm9 cd9 ct9 : Value} {od9 an9 : Option Addr} {sl9 : Array (Option Value)} {f10 : Addr} {oc10 kV10 dc10 pm10 cd10 ct10 : Value} {od10 an10 : Option Addr} {sl10 : Array (Option Value)} {f11 : Addr} {oc11 kV11 dc11 pm11 cd11 ct11 : Value} {od11 an11 : Option Addr} {sl11 : Array (Option Value)} {f12 : Addr} {oc12 kV12 dc12 pm12 cd12 ct12 : Value} {od12 an12 : Option Addr} {sl12 : Array (Option Value)} {f13 : Addr} {oc13 kV13 dc13 pm13 cd13 ct13 : Value} {od13 an13 : Option Addr} {sl13 : Array (Option Value)} {f14 : Addr} {oc14 kV14 dc14 pm14 cd14 ct14 : Value} {od14 an14 : Option Addr} {sl14 : Array (Option Value)} {f15 : Addr} {oc15 kV15 dc15 pm15 cd15 ct15 : Value} {od15 an15 : Option Addr} {sl15 : Array (Option Value)} {f16 : Addr} {oc16 kV16 dc16 pm16 cd16 ct16 : Value} {od16 an16 : Option Addr} {sl16 : Array (Option Value)} {f17 : Addr} {oc17 kV17 dc17 pm17 cd17 ct17 : Value} {od17 an17 : Option Addr} {sl17 : Array (Option Value)} {f18 : Addr} {oc18 kV18 dc18 pm18 cd18 ct18 : Value} {od18 an18 : Option Addr} {sl18 : Array (Option Value)} {f19 : Addr} {oc19 kV19 dc19 pm19 cd19 ct19 : Value} {od19 an19 : Option Addr} {sl19 : Array (Option Value)} {f20 : Addr} {oc20 kV20 dc20 pm20 cd20 ct20 : Value} {od20 an20 : Option Addr} {sl20 : Array (Option Value)} {f21 : Addr} {oc21 kV21 dc21 pm21 cd21 ct21 : Value} {od21 an21 : Option Addr} {sl21 : Array (Option Value)} {f22 : Addr} {oc22 kV22 dc22 pm22 cd22 ct22 : Value} {od22 an22 : Option Addr} {sl22 : Array (Option Value)} {f23 : Addr} {oc23 kV23 dc23 pm23 cd23 ct23 : Value} {od23 an23 : Option Addr} {sl23 : Array (Option Value)} {f24 : Addr} {oc24 kV24 dc24 pm24 cd24 ct24 : Value} {od24 an24 : Option Addr} {sl24 : Array (Option Value)} {f25 : Addr} {oc25 kV25 dc25 pm25 cd25 ct25 : Value} {od25 an25 : Option Addr} {sl25 : Array (Option Value)} {f26 : Addr} {oc26 kV26 dc26 pm26 cd26 ct26 : Value} {od26 an26 : Option Addr} {sl26 : Array (Option Value)} {f27 : Addr} {oc27 kV27 dc27 pm27 cd27 ct27 : Value} {od27 an27 : Option Addr} {sl27 : Array (Option Value)} {f28 : Addr} {oc28 kV28 dc28 pm28 cd28 ct28 : Value} {od28 an28 : Option Addr} {sl28 : Array (Option Value)} {f29 : Addr} {oc29 kV29 dc29 pm29 cd29 ct29 : Value} {od29 an29 : Option Addr} {sl29 : Array (Option Value)} {f30 : Addr} {oc30 kV30 dc30 pm30 cd30 ct30 : Value} {od30 an30 : Option Addr} {sl30 : Array (Option Value)} {f31 : Addr} {oc31 kV31 dc31 pm31 cd31 ct31 : Value} {od31 an31 : Option Addr} {sl31 : Array (Option Value)} {f32 : Addr} {oc32 kV32 dc32 pm32 cd32 ct32 : Value} {od32 an32 : Option Addr} {sl32 : Array (Option Value)} {f33 : Addr} {oc33 kV33 dc33 pm33 cd33 ct33 : Value} {od33 an33 : Option Addr} {sl33 : Array (Option Value)} {u_ANY_SIGN : Tok} {u_FIRST_END : Tok} {u_LAST_END : Tok} {u_LETTERS : Tok} {u_MOST_PRICE : Tok} {u_MOST_RULES : Tok} (X : K.In h) (G : h.Ns mainGlobals mg) (hfa : mg "law" = some (.ref fa))
    (a0 : PySem.W.nsIn K mainGlobals "is_whole" = some (some (.ref f0)))
    (l0 : K.lookup f0 = some ⟨oc0, od0, .func (PySem.W.fnOf "is_whole" "is_whole" (defArgs sis_whole) (defBody sis_whole) (defScope sis_whole) .none (.ref D0) dc0 pm0 an0 cd0 ct0), sl0⟩)
    (c0 : PySem.W.codeIn K cd0 "is_whole" = true)
    (k0 : PySem.W.keepIn K (.ref f0) = true)
    (w0_0 : PySem.W.nsIn K D0 "least" = some (some (.int 0 t0_0)))
    (w0_1 : PySem.W.nsIn K D0 "most" = some (some (.int 120 t0_1)))
    (a1 : PySem.W.nsIn K mainGlobals "is_letter" = some (some (.ref f1)))
    (l1 : K.lookup f1 = some ⟨oc1, od1, .func (PySem.W.fnOf "is_letter" "is_letter" (defArgs sis_letter) (defBody sis_letter) (defScope sis_letter) .none kV1 dc1 pm1 an1 cd1 ct1), sl1⟩)
    (c1 : PySem.W.codeIn K cd1 "is_letter" = true)
    (k1 : PySem.W.keepIn K (.ref f1) = true)
    (a2 : PySem.W.nsIn K mainGlobals "is_side" = some (some (.ref f2)))
    (l2 : K.lookup f2 = some ⟨oc2, od2, .func (PySem.W.fnOf "is_side" "is_side" (defArgs sis_side) (defBody sis_side) (defScope sis_side) .none kV2 dc2 pm2 an2 cd2 ct2), sl2⟩)
    (c2 : PySem.W.codeIn K cd2 "is_side" = true)
    (k2 : PySem.W.keepIn K (.ref f2) = true)
    (a3 : PySem.W.nsIn K mainGlobals "rule_looks" = some (some (.ref f3)))
    (l3 : K.lookup f3 = some ⟨oc3, od3, .func (PySem.W.fnOf "rule_looks" "rule_looks" (defArgs srule_looks) (defBody srule_looks) (defScope srule_looks) .none kV3 dc3 pm3 an3 cd3 ct3), sl3⟩)
    (c3 : PySem.W.codeIn K cd3 "rule_looks" = true)
    (k3 : PySem.W.keepIn K (.ref f3) = true)
    (a4 : PySem.W.nsIn K mainGlobals "need_book" = some (some (.ref f4)))
    (l4 : K.lookup f4 = some ⟨oc4, od4, .func (PySem.W.fnOf "need_book" "need_book" (defArgs sneed_book) (defBody sneed_book) (defScope sneed_book) .none kV4 dc4 pm4 an4 cd4 ct4), sl4⟩)
    (c4 : PySem.W.codeIn K cd4 "need_book" = true)
    (k4 : PySem.W.keepIn K (.ref f4) = true)
    (a5 : PySem.W.nsIn K mainGlobals "need_case" = some (some (.ref f5)))
    (l5 : K.lookup f5 = some ⟨oc5, od5, .func (PySem.W.fnOf "need_case" "need_case" (defArgs sneed_case) (defBody sneed_case) (defScope sneed_case) .none kV5 dc5 pm5 an5 cd5 ct5), sl5⟩)
    (c5 : PySem.W.codeIn K cd5 "need_case" = true)
    (k5 : PySem.W.keepIn K (.ref f5) = true)
    (a6 : PySem.W.nsIn K mainGlobals "fits_case" = some (some (.ref f6)))
    (l6 : K.lookup f6 = some ⟨oc6, od6, .func (PySem.W.fnOf "fits_case" "fits_case" (defArgs sfits_case) (defBody sfits_case) (defScope sfits_case) .none kV6 dc6 pm6 an6 cd6 ct6), sl6⟩)
    (c6 : PySem.W.codeIn K cd6 "fits_case" = true)
    (k6 : PySem.W.keepIn K (.ref f6) = true)
    (a7 : PySem.W.nsIn K mainGlobals "price_there" = some (some (.ref f7)))
    (l7 : K.lookup f7 = some ⟨oc7, od7, .func (PySem.W.fnOf "price_there" "price_there" (defArgs sprice_there) (defBody sprice_there) (defScope sprice_there) .none kV7 dc7 pm7 an7 cd7 ct7), sl7⟩)
    (c7 : PySem.W.codeIn K cd7 "price_there" = true)
    (k7 : PySem.W.keepIn K (.ref f7) = true)
    (a8 : PySem.W.nsIn K mainGlobals "price" = some (some (.ref f8)))
    (l8 : K.lookup f8 = some ⟨oc8, od8, .func (PySem.W.fnOf "price" "price" (defArgs sprice) (defBody sprice) (defScope sprice) .none kV8 dc8 pm8 an8 cd8 ct8), sl8⟩)
    (c8 : PySem.W.codeIn K cd8 "price" = true)
    (k8 : PySem.W.keepIn K (.ref f8) = true)
    (a9 : PySem.W.nsIn K mainGlobals "signs_for" = some (some (.ref f9)))
    (l9 : K.lookup f9 = some ⟨oc9, od9, .func (PySem.W.fnOf "signs_for" "signs_for" (defArgs ssigns_for) (defBody ssigns_for) (defScope ssigns_for) .none kV9 dc9 pm9 an9 cd9 ct9), sl9⟩)
    (c9 : PySem.W.codeIn K cd9 "signs_for" = true)
    (k9 : PySem.W.keepIn K (.ref f9) = true)
    (a10 : PySem.W.nsIn K mainGlobals "rule_cases" = some (some (.ref f10)))
    (l10 : K.lookup f10 = some ⟨oc10, od10, .func (PySem.W.fnOf "rule_cases" "rule_cases" (defArgs srule_cases) (defBody srule_cases) (defScope srule_cases) .none kV10 dc10 pm10 an10 cd10 ct10), sl10⟩)
    (c10 : PySem.W.codeIn K cd10 "rule_cases" = true)
    (k10 : PySem.W.keepIn K (.ref f10) = true)
    (a11 : PySem.W.nsIn K mainGlobals "price_table" = some (some (.ref f11)))
    (l11 : K.lookup f11 = some ⟨oc11, od11, .func (PySem.W.fnOf "price_table" "price_table" (defArgs sprice_table) (defBody sprice_table) (defScope sprice_table) .none kV11 dc11 pm11 an11 cd11 ct11), sl11⟩)
    (c11 : PySem.W.codeIn K cd11 "price_table" = true)
    (k11 : PySem.W.keepIn K (.ref f11) = true)
    (a12 : PySem.W.nsIn K mainGlobals "two_tables" = some (some (.ref f12)))
    (l12 : K.lookup f12 = some ⟨oc12, od12, .func (PySem.W.fnOf "two_tables" "two_tables" (defArgs stwo_tables) (defBody stwo_tables) (defScope stwo_tables) .none kV12 dc12 pm12 an12 cd12 ct12), sl12⟩)
    (c12 : PySem.W.codeIn K cd12 "two_tables" = true)
    (k12 : PySem.W.keepIn K (.ref f12) = true)
    (a13 : PySem.W.nsIn K mainGlobals "same" = some (some (.ref f13)))
    (l13 : K.lookup f13 = some ⟨oc13, od13, .func (PySem.W.fnOf "same" "same" (defArgs ssame) (defBody ssame) (defScope ssame) .none kV13 dc13 pm13 an13 cd13 ct13), sl13⟩)
    (c13 : PySem.W.codeIn K cd13 "same" = true)
    (k13 : PySem.W.keepIn K (.ref f13) = true)
    (a14 : PySem.W.nsIn K mainGlobals "is_within" = some (some (.ref f14)))
    (l14 : K.lookup f14 = some ⟨oc14, od14, .func (PySem.W.fnOf "is_within" "is_within" (defArgs sis_within) (defBody sis_within) (defScope sis_within) .none kV14 dc14 pm14 an14 cd14 ct14), sl14⟩)
    (c14 : PySem.W.codeIn K cd14 "is_within" = true)
    (k14 : PySem.W.keepIn K (.ref f14) = true)
    (a15 : PySem.W.nsIn K mainGlobals "each_once" = some (some (.ref f15)))
    (l15 : K.lookup f15 = some ⟨oc15, od15, .func (PySem.W.fnOf "each_once" "each_once" (defArgs seach_once) (defBody seach_once) (defScope seach_once) .none kV15 dc15 pm15 an15 cd15 ct15), sl15⟩)
    (c15 : PySem.W.codeIn K cd15 "each_once" = true)
    (k15 : PySem.W.keepIn K (.ref f15) = true)
    (a16 : PySem.W.nsIn K mainGlobals "either" = some (some (.ref f16)))
    (l16 : K.lookup f16 = some ⟨oc16, od16, .func (PySem.W.fnOf "either" "either" (defArgs seither) (defBody seither) (defScope seither) .none kV16 dc16 pm16 an16 cd16 ct16), sl16⟩)
    (c16 : PySem.W.codeIn K cd16 "either" = true)
    (k16 : PySem.W.keepIn K (.ref f16) = true)
    (a17 : PySem.W.nsIn K mainGlobals "sides_met" = some (some (.ref f17)))
    (l17 : K.lookup f17 = some ⟨oc17, od17, .func (PySem.W.fnOf "sides_met" "sides_met" (defArgs ssides_met) (defBody ssides_met) (defScope ssides_met) .none kV17 dc17 pm17 an17 cd17 ct17), sl17⟩)
    (c17 : PySem.W.codeIn K cd17 "sides_met" = true)
    (k17 : PySem.W.keepIn K (.ref f17) = true)
    (a18 : PySem.W.nsIn K mainGlobals "both" = some (some (.ref f18)))
    (l18 : K.lookup f18 = some ⟨oc18, od18, .func (PySem.W.fnOf "both" "both" (defArgs sboth) (defBody sboth) (defScope sboth) .none kV18 dc18 pm18 an18 cd18 ct18), sl18⟩)
    (c18 : PySem.W.codeIn K cd18 "both" = true)
    (k18 : PySem.W.keepIn K (.ref f18) = true)
    (a19 : PySem.W.nsIn K mainGlobals "_law_mixed" = some (some (.ref f19)))
    (l19 : K.lookup f19 = some ⟨oc19, od19, .func (PySem.W.fnOf "_law_mixed" "_law_mixed" (defArgs s_law_mixed) (defBody s_law_mixed) (defScope s_law_mixed) .none kV19 dc19 pm19 an19 cd19 ct19), sl19⟩)
    (c19 : PySem.W.codeIn K cd19 "_law_mixed" = true)
    (k19 : PySem.W.keepIn K (.ref f19) = true)
    (a20 : PySem.W.nsIn K mainGlobals "_law_stream" = some (some (.ref f20)))
    (l20 : K.lookup f20 = some ⟨oc20, od20, .func (PySem.W.fnOf "_law_stream" "_law_stream" (defArgs s_law_stream) (defBody s_law_stream) (defScope s_law_stream) .none kV20 dc20 pm20 an20 cd20 ct20), sl20⟩)
    (c20 : PySem.W.codeIn K cd20 "_law_stream" = true)
    (k20 : PySem.W.keepIn K (.ref f20) = true)
    (a21 : PySem.W.nsIn K mainGlobals "_law_take" = some (some (.ref f21)))
    (l21 : K.lookup f21 = some ⟨oc21, od21, .func (PySem.W.fnOf "_law_take" "_law_take" (defArgs s_law_take) (defBody s_law_take) (defScope s_law_take) .none kV21 dc21 pm21 an21 cd21 ct21), sl21⟩)
    (c21 : PySem.W.codeIn K cd21 "_law_take" = true)
    (k21 : PySem.W.keepIn K (.ref f21) = true)
    (a22 : PySem.W.nsIn K mainGlobals "_law_signs" = some (some (.ref f22)))
    (l22 : K.lookup f22 = some ⟨oc22, od22, .func (PySem.W.fnOf "_law_signs" "_law_signs" (defArgs s_law_signs) (defBody s_law_signs) (defScope s_law_signs) .none kV22 dc22 pm22 an22 cd22 ct22), sl22⟩)
    (c22 : PySem.W.codeIn K cd22 "_law_signs" = true)
    (k22 : PySem.W.keepIn K (.ref f22) = true)
    (a23 : PySem.W.nsIn K mainGlobals "_law_side" = some (some (.ref f23)))
    (l23 : K.lookup f23 = some ⟨oc23, od23, .func (PySem.W.fnOf "_law_side" "_law_side" (defArgs s_law_side) (defBody s_law_side) (defScope s_law_side) .none kV23 dc23 pm23 an23 cd23 ct23), sl23⟩)
    (c23 : PySem.W.codeIn K cd23 "_law_side" = true)
    (k23 : PySem.W.keepIn K (.ref f23) = true)
    (a24 : PySem.W.nsIn K mainGlobals "_law_rule" = some (some (.ref f24)))
    (l24 : K.lookup f24 = some ⟨oc24, od24, .func (PySem.W.fnOf "_law_rule" "_law_rule" (defArgs s_law_rule) (defBody s_law_rule) (defScope s_law_rule) .none kV24 dc24 pm24 an24 cd24 ct24), sl24⟩)
    (c24 : PySem.W.codeIn K cd24 "_law_rule" = true)
    (k24 : PySem.W.keepIn K (.ref f24) = true)
    (a25 : PySem.W.nsIn K mainGlobals "_law_rules" = some (some (.ref f25)))
    (l25 : K.lookup f25 = some ⟨oc25, od25, .func (PySem.W.fnOf "_law_rules" "_law_rules" (defArgs s_law_rules) (defBody s_law_rules) (defScope s_law_rules) .none kV25 dc25 pm25 an25 cd25 ct25), sl25⟩)
    (c25 : PySem.W.codeIn K cd25 "_law_rules" = true)
    (k25 : PySem.W.keepIn K (.ref f25) = true)
    (a26 : PySem.W.nsIn K mainGlobals "_law_cost" = some (some (.ref f26)))
    (l26 : K.lookup f26 = some ⟨oc26, od26, .func (PySem.W.fnOf "_law_cost" "_law_cost" (defArgs s_law_cost) (defBody s_law_cost) (defScope s_law_cost) .none kV26 dc26 pm26 an26 cd26 ct26), sl26⟩)
    (c26 : PySem.W.codeIn K cd26 "_law_cost" = true)
    (k26 : PySem.W.keepIn K (.ref f26) = true)
    (a27 : PySem.W.nsIn K mainGlobals "_law_trios" = some (some (.ref f27)))
    (l27 : K.lookup f27 = some ⟨oc27, od27, .func (PySem.W.fnOf "_law_trios" "_law_trios" (defArgs s_law_trios) (defBody s_law_trios) (defScope s_law_trios) .none kV27 dc27 pm27 an27 cd27 ct27), sl27⟩)
    (c27 : PySem.W.codeIn K cd27 "_law_trios" = true)
    (k27 : PySem.W.keepIn K (.ref f27) = true)
    (a28 : PySem.W.nsIn K mainGlobals "_law_met" = some (some (.ref f28)))
    (l28 : K.lookup f28 = some ⟨oc28, od28, .func (PySem.W.fnOf "_law_met" "_law_met" (defArgs s_law_met) (defBody s_law_met) (defScope s_law_met) .none kV28 dc28 pm28 an28 cd28 ct28), sl28⟩)
    (c28 : PySem.W.codeIn K cd28 "_law_met" = true)
    (k28 : PySem.W.keepIn K (.ref f28) = true)
    (a29 : PySem.W.nsIn K mainGlobals "_law_once" = some (some (.ref f29)))
    (l29 : K.lookup f29 = some ⟨oc29, od29, .func (PySem.W.fnOf "_law_once" "_law_once" (defArgs s_law_once) (defBody s_law_once) (defScope s_law_once) .none kV29 dc29 pm29 an29 cd29 ct29), sl29⟩)
    (c29 : PySem.W.codeIn K cd29 "_law_once" = true)
    (k29 : PySem.W.keepIn K (.ref f29) = true)
    (a30 : PySem.W.nsIn K mainGlobals "_law_both_due" = some (some (.ref f30)))
    (l30 : K.lookup f30 = some ⟨oc30, od30, .func (PySem.W.fnOf "_law_both_due" "_law_both_due" (defArgs s_law_both_due) (defBody s_law_both_due) (defScope s_law_both_due) .none kV30 dc30 pm30 an30 cd30 ct30), sl30⟩)
    (c30 : PySem.W.codeIn K cd30 "_law_both_due" = true)
    (k30 : PySem.W.keepIn K (.ref f30) = true)
    (a31 : PySem.W.nsIn K mainGlobals "_law_two_right" = some (some (.ref f31)))
    (l31 : K.lookup f31 = some ⟨oc31, od31, .func (PySem.W.fnOf "_law_two_right" "_law_two_right" (defArgs s_law_two_right) (defBody s_law_two_right) (defScope s_law_two_right) .none kV31 dc31 pm31 an31 cd31 ct31), sl31⟩)
    (c31 : PySem.W.codeIn K cd31 "_law_two_right" = true)
    (k31 : PySem.W.keepIn K (.ref f31) = true)
    (a32 : PySem.W.nsIn K mainGlobals "_law_least_and_greatest" = some (some (.ref f32)))
    (l32 : K.lookup f32 = some ⟨oc32, od32, .func (PySem.W.fnOf "_law_least_and_greatest" "_law_least_and_greatest" (defArgs s_law_least_and_greatest) (defBody s_law_least_and_greatest) (defScope s_law_least_and_greatest) .none kV32 dc32 pm32 an32 cd32 ct32), sl32⟩)
    (c32 : PySem.W.codeIn K cd32 "_law_least_and_greatest" = true)
    (k32 : PySem.W.keepIn K (.ref f32) = true)
    (a33 : PySem.W.nsIn K mainGlobals "law" = some (some (.ref f33)))
    (l33 : K.lookup f33 = some ⟨oc33, od33, .func (PySem.W.fnOf "law" "law" (defArgs slaw) (defBody slaw) (defScope slaw) .none kV33 dc33 pm33 an33 cd33 ct33), sl33⟩)
    (c33 : PySem.W.codeIn K cd33 "law" = true)
    (k33 : PySem.W.keepIn K (.ref f33) = true)
    (z_all : PySem.W.nsIn K mainGlobals "all" = some none)
    (z_bool : PySem.W.nsIn K mainGlobals "bool" = some none)
    (z_enumerate : PySem.W.nsIn K mainGlobals "enumerate" = some none)
    (z_int : PySem.W.nsIn K mainGlobals "int" = some none)
    (z_isinstance : PySem.W.nsIn K mainGlobals "isinstance" = some none)
    (z_len : PySem.W.nsIn K mainGlobals "len" = some none)
    (z_list : PySem.W.nsIn K mainGlobals "list" = some none)
    (z_max : PySem.W.nsIn K mainGlobals "max" = some none)
    (z_min : PySem.W.nsIn K mainGlobals "min" = some none)
    (z_range : PySem.W.nsIn K mainGlobals "range" = some none)
    (z_repr : PySem.W.nsIn K mainGlobals "repr" = some none)
    (z_sorted : PySem.W.nsIn K mainGlobals "sorted" = some none)
    (z_str : PySem.W.nsIn K mainGlobals "str" = some none)
    (z_tuple : PySem.W.nsIn K mainGlobals "tuple" = some none)
    (y_ANY_SIGN : PySem.W.nsIn K mainGlobals "ANY_SIGN" = some (some (.str "*" u_ANY_SIGN)))
    (y_FIRST_END : PySem.W.nsIn K mainGlobals "FIRST_END" = some (some (.str "<" u_FIRST_END)))
    (y_LAST_END : PySem.W.nsIn K mainGlobals "LAST_END" = some (some (.str ">" u_LAST_END)))
    (y_LETTERS : PySem.W.nsIn K mainGlobals "LETTERS" = some (some (.str "abcdefghijklmnopqrstuvwxyz" u_LETTERS)))
    (y_MOST_PRICE : PySem.W.nsIn K mainGlobals "MOST_PRICE" = some (some (.int 999 u_MOST_PRICE)))
    (y_MOST_RULES : PySem.W.nsIn K mainGlobals "MOST_RULES" = some (some (.int 80 u_MOST_RULES)))
    : ∃ fd : FuncData, (∀ (s : Shared) (v : Value), BindsTo s fd ⟨[v], []⟩ [("_law_script", v)]) ∧ ∀ base : Heap, K.In base → base.Ns mainGlobals mg → FnG l.prog w K mg base 8 fa fd ["_law_script"] (spF K flaw) := by
  have e := hfa.symm.trans (PySem.W.mg_of X G a33)
  cases e
  have T : Txt mg := ⟨PySem.W.mg_none_of X G z_all, PySem.W.mg_none_of X G z_bool, PySem.W.mg_none_of X G z_enumerate, PySem.W.mg_none_of X G z_int, PySem.W.mg_none_of X G z_isinstance, PySem.W.mg_none_of X G z_len, PySem.W.mg_none_of X G z_list, PySem.W.mg_none_of X G z_max, PySem.W.mg_none_of X G z_min, PySem.W.mg_none_of X G z_range, PySem.W.mg_none_of X G z_repr, PySem.W.mg_none_of X G z_sorted, PySem.W.mg_none_of X G z_str, PySem.W.mg_none_of X G z_tuple, con_str (PySem.W.mg_of X G y_ANY_SIGN), con_str (PySem.W.mg_of X G y_FIRST_END), con_str (PySem.W.mg_of X G y_LAST_END), con_str (PySem.W.mg_of X G y_LETTERS), con_int (PySem.W.mg_of X G y_MOST_PRICE), con_int (PySem.W.mg_of X G y_MOST_RULES)⟩
  have Fis_whole : FunDAt K mg "is_whole" sis_whole [("least", flatOf (.int 0)), ("most", flatOf (.int 120))] := ⟨_, _, ⟨⟨_, _, _, _, _, _, _, _, _, _, rfl, l0, c0, .inl ⟨rfl, rfl⟩, .inr ⟨D0, rfl, fun q hq => by
      simp only [List.mem_cons, List.not_mem_nil, or_false] at hq
      rcases hq with rfl | rfl
      · exact ⟨_, w0_0, ⟨_, rfl⟩⟩
      · exact ⟨_, w0_1, ⟨_, rfl⟩⟩
    ⟩⟩, k0⟩, PySem.W.mg_of X G a0⟩
  have Fis_letter : FunAt K mg "is_letter" sis_letter := ⟨_, _, fun_mk (st := sis_letter) l1 c1 k1, PySem.W.mg_of X G a1⟩
  have Fis_side : FunAt K mg "is_side" sis_side := ⟨_, _, fun_mk (st := sis_side) l2 c2 k2, PySem.W.mg_of X G a2⟩
  have Frule_looks : FunAt K mg "rule_looks" srule_looks := ⟨_, _, fun_mk (st := srule_looks) l3 c3 k3, PySem.W.mg_of X G a3⟩
  have Fneed_book : FunAt K mg "need_book" sneed_book := ⟨_, _, fun_mk (st := sneed_book) l4 c4 k4, PySem.W.mg_of X G a4⟩
  have Fneed_case : FunAt K mg "need_case" sneed_case := ⟨_, _, fun_mk (st := sneed_case) l5 c5 k5, PySem.W.mg_of X G a5⟩
  have Ffits_case : FunAt K mg "fits_case" sfits_case := ⟨_, _, fun_mk (st := sfits_case) l6 c6 k6, PySem.W.mg_of X G a6⟩
  have Fprice_there : FunAt K mg "price_there" sprice_there := ⟨_, _, fun_mk (st := sprice_there) l7 c7 k7, PySem.W.mg_of X G a7⟩
  have Fprice : FunAt K mg "price" sprice := ⟨_, _, fun_mk (st := sprice) l8 c8 k8, PySem.W.mg_of X G a8⟩
  have Fsigns_for : FunAt K mg "signs_for" ssigns_for := ⟨_, _, fun_mk (st := ssigns_for) l9 c9 k9, PySem.W.mg_of X G a9⟩
  have Frule_cases : FunAt K mg "rule_cases" srule_cases := ⟨_, _, fun_mk (st := srule_cases) l10 c10 k10, PySem.W.mg_of X G a10⟩
  have Fprice_table : FunAt K mg "price_table" sprice_table := ⟨_, _, fun_mk (st := sprice_table) l11 c11 k11, PySem.W.mg_of X G a11⟩
  have Ftwo_tables : FunAt K mg "two_tables" stwo_tables := ⟨_, _, fun_mk (st := stwo_tables) l12 c12 k12, PySem.W.mg_of X G a12⟩
  have Fsame : FunAt K mg "same" ssame := ⟨_, _, fun_mk (st := ssame) l13 c13 k13, PySem.W.mg_of X G a13⟩
  have Fis_within : FunAt K mg "is_within" sis_within := ⟨_, _, fun_mk (st := sis_within) l14 c14 k14, PySem.W.mg_of X G a14⟩
  have Feach_once : FunAt K mg "each_once" seach_once := ⟨_, _, fun_mk (st := seach_once) l15 c15 k15, PySem.W.mg_of X G a15⟩
  have Feither : FunAt K mg "either" seither := ⟨_, _, fun_mk (st := seither) l16 c16 k16, PySem.W.mg_of X G a16⟩
  have Fsides_met : FunAt K mg "sides_met" ssides_met := ⟨_, _, fun_mk (st := ssides_met) l17 c17 k17, PySem.W.mg_of X G a17⟩
  have Fboth : FunAt K mg "both" sboth := ⟨_, _, fun_mk (st := sboth) l18 c18 k18, PySem.W.mg_of X G a18⟩
  have F_law_mixed : FunAt K mg "_law_mixed" s_law_mixed := ⟨_, _, fun_mk (st := s_law_mixed) l19 c19 k19, PySem.W.mg_of X G a19⟩
  have F_law_stream : FunAt K mg "_law_stream" s_law_stream := ⟨_, _, fun_mk (st := s_law_stream) l20 c20 k20, PySem.W.mg_of X G a20⟩
  have F_law_take : FunAt K mg "_law_take" s_law_take := ⟨_, _, fun_mk (st := s_law_take) l21 c21 k21, PySem.W.mg_of X G a21⟩
  have F_law_signs : FunAt K mg "_law_signs" s_law_signs := ⟨_, _, fun_mk (st := s_law_signs) l22 c22 k22, PySem.W.mg_of X G a22⟩
  have F_law_side : FunAt K mg "_law_side" s_law_side := ⟨_, _, fun_mk (st := s_law_side) l23 c23 k23, PySem.W.mg_of X G a23⟩
  have F_law_rule : FunAt K mg "_law_rule" s_law_rule := ⟨_, _, fun_mk (st := s_law_rule) l24 c24 k24, PySem.W.mg_of X G a24⟩
  have F_law_rules : FunAt K mg "_law_rules" s_law_rules := ⟨_, _, fun_mk (st := s_law_rules) l25 c25 k25, PySem.W.mg_of X G a25⟩
  have F_law_cost : FunAt K mg "_law_cost" s_law_cost := ⟨_, _, fun_mk (st := s_law_cost) l26 c26 k26, PySem.W.mg_of X G a26⟩
  have F_law_trios : FunAt K mg "_law_trios" s_law_trios := ⟨_, _, fun_mk (st := s_law_trios) l27 c27 k27, PySem.W.mg_of X G a27⟩
  have F_law_met : FunAt K mg "_law_met" s_law_met := ⟨_, _, fun_mk (st := s_law_met) l28 c28 k28, PySem.W.mg_of X G a28⟩
  have F_law_once : FunAt K mg "_law_once" s_law_once := ⟨_, _, fun_mk (st := s_law_once) l29 c29 k29, PySem.W.mg_of X G a29⟩
  have F_law_both_due : FunAt K mg "_law_both_due" s_law_both_due := ⟨_, _, fun_mk (st := s_law_both_due) l30 c30 k30, PySem.W.mg_of X G a30⟩
  have F_law_two_right : FunAt K mg "_law_two_right" s_law_two_right := ⟨_, _, fun_mk (st := s_law_two_right) l31 c31 k31, PySem.W.mg_of X G a31⟩
  have F_law_least_and_greatest : FunAt K mg "_law_least_and_greatest" s_law_least_and_greatest := ⟨_, _, fun_mk (st := s_law_least_and_greatest) l32 c32 k32, PySem.W.mg_of X G a32⟩
  refine ⟨_, fun s v => ?_, fun base _ _ => fn_F (fun_mk (st := slaw) l33 c33 k33) sclaw fun cdv A outer s H vs E hg hr => all_ok T Fis_whole Fis_letter Fis_side Frule_looks Fneed_book Fneed_case Ffits_case Fprice_there Fprice Fsigns_for Frule_cases Fprice_table Ftwo_tables Fsame Fis_within Feach_once Feither Fsides_met Fboth F_law_mixed F_law_stream F_law_take F_law_signs F_law_side F_law_rule F_law_rules F_law_cost F_law_trios F_law_met F_law_once F_law_both_due F_law_two_right F_law_least_and_greatest _ cdv A outer s H vs E hg hr⟩
  exact .of_eq rfl
theorem walk (law_true : ∀ ns : List Int, ns.length ≤ 63 → ∃ ms', flaw [.im (.list (ns.map .int))] = .ok (.im (.bool true)) ms') {l : PySem.W.OpenLaw} {q : Program} {loose : List Str} {XP : (Str → Option Value) → Heap → Prop} {YP : World → Heap → Prop} {d : DefRec} {K : Params → PySem.W.Frag} (hn : l.most = some 63) (hdf : d.params.defaults = [])
    (hY : ∀ (w : World) (h : Heap), YP w h → (K w.params).In h)
    (F : ∀ (w : World) (mg : Str → Option Value) (fa : Addr) (h : Heap), (K w.params).In h → h.Ns mainGlobals mg → mg d.name = some (.ref fa) → ∃ fd : FuncData, (∀ (s : Shared) (u : Value), BindsTo s fd ⟨[u], []⟩ [("_law_script", u)]) ∧ ∀ base : Heap, (K w.params).In base → base.Ns mainGlobals mg → FnG l.prog w (K w.params) mg base 8 fa fd ["_law_script"] (spF (K w.params) flaw)) :
    PySem.W.WalkO q loose XP YP l.row.toRowW d [] (fun f vs => PySem.call f vs) :=
  walk_G (n := 63) (k := 8) (x := "_law_script") (sp := fun K => spF K flaw) hn (by decide) hdf ⟨rfl, by decide, by decide⟩ hY F fun K H a ns hl hs => law_hs law_true K H a ns hl hs
end FDL

open PySem PySem.W PyProof.Rows in
set_option maxRecDepth 100000 in
set_option maxHeartbeats 0 in
theorem PySem.Challenge.cw_strikeline_k03_whole_books_put_together_holds : PySem.Challenge.rw_strikeline_k03_whole_books_put_together.Holds := by
  w_on; o_law; k_head; (case hw => w_witness2)
  k_fill
  refine FDL.walk FDL.law_true (l := PySem.Challenge.rw_strikeline_k03_whole_books_put_together) rfl rfl (fun w h Y => PySem.W.kIn_of Y) ?F
  case F =>
    intro w mg fa h KX G hmg
    refine' FDL.all_mk KX G hmg ?a0 ?l0 ?c0 ?k0 ?w0_0 ?w0_1 ?a1 ?l1 ?c1 ?k1 ?a2 ?l2 ?c2 ?k2 ?a3 ?l3 ?c3 ?k3 ?a4 ?l4 ?c4 ?k4 ?a5 ?l5 ?c5 ?k5 ?a6 ?l6 ?c6 ?k6 ?a7 ?l7 ?c7 ?k7 ?a8 ?l8 ?c8 ?k8 ?a9 ?l9 ?c9 ?k9 ?a10 ?l10 ?c10 ?k10 ?a11 ?l11 ?c11 ?k11 ?a12 ?l12 ?c12 ?k12 ?a13 ?l13 ?c13 ?k13 ?a14 ?l14 ?c14 ?k14 ?a15 ?l15 ?c15 ?k15 ?a16 ?l16 ?c16 ?k16 ?a17 ?l17 ?c17 ?k17 ?a18 ?l18 ?c18 ?k18 ?a19 ?l19 ?c19 ?k19 ?a20 ?l20 ?c20 ?k20 ?a21 ?l21 ?c21 ?k21 ?a22 ?l22 ?c22 ?k22 ?a23 ?l23 ?c23 ?k23 ?a24 ?l24 ?c24 ?k24 ?a25 ?l25 ?c25 ?k25 ?a26 ?l26 ?c26 ?k26 ?a27 ?l27 ?c27 ?k27 ?a28 ?l28 ?c28 ?k28 ?a29 ?l29 ?c29 ?k29 ?a30 ?l30 ?c30 ?k30 ?a31 ?l31 ?c31 ?k31 ?a32 ?l32 ?c32 ?k32 ?a33 ?l33 ?c33 ?k33 ?z_all ?z_bool ?z_enumerate ?z_int ?z_isinstance ?z_len ?z_list ?z_max ?z_min ?z_range ?z_repr ?z_sorted ?z_str ?z_tuple ?y_ANY_SIGN ?y_FIRST_END ?y_LAST_END ?y_LETTERS ?y_MOST_PRICE ?y_MOST_RULES
    (case a0 => k_is)
    (case l0 => k_is)
    (case c0 => k_is)
    (case k0 => k_is)
    (case w0_0 => k_is)
    (case w0_1 => k_is)
    (case a1 => k_is)
    (case l1 => k_is)
    (case c1 => k_is)
    (case k1 => k_is)
    (case a2 => k_is)
    (case l2 => k_is)
    (case c2 => k_is)
    (case k2 => k_is)
    (case a3 => k_is)
    (case l3 => k_is)
    (case c3 => k_is)
    (case k3 => k_is)
    (case a4 => k_is)
    (case l4 => k_is)
    (case c4 => k_is)
    (case k4 => k_is)
    (case a5 => k_is)
    (case l5 => k_is)
    (case c5 => k_is)
    (case k5 => k_is)
    (case a6 => k_is)
    (case l6 => k_is)
    (case c6 => k_is)
    (case k6 => k_is)
    (case a7 => k_is)
    (case l7 => k_is)
    (case c7 => k_is)
    (case k7 => k_is)
    (case a8 => k_is)
    (case l8 => k_is)
    (case c8 => k_is)
    (case k8 => k_is)
    (case a9 => k_is)
    (case l9 => k_is)
    (case c9 => k_is)
    (case k9 => k_is)
    (case a10 => k_is)
    (case l10 => k_is)
    (case c10 => k_is)
    (case k10 => k_is)
    (case a11 => k_is)
    (case l11 => k_is)
    (case c11 => k_is)
    (case k11 => k_is)
    (case a12 => k_is)
    (case l12 => k_is)
    (case c12 => k_is)
    (case k12 => k_is)
    (case a13 => k_is)
    (case l13 => k_is)
    (case c13 => k_is)
    (case k13 => k_is)
    (case a14 => k_is)
    (case l14 => k_is)
    (case c14 => k_is)
    (case k14 => k_is)
    (case a15 => k_is)
    (case l15 => k_is)
    (case c15 => k_is)
    (case k15 => k_is)
    (case a16 => k_is)
    (case l16 => k_is)
    (case c16 => k_is)
    (case k16 => k_is)
    (case a17 => k_is)
    (case l17 => k_is)
    (case c17 => k_is)
    (case k17 => k_is)
    (case a18 => k_is)
    (case l18 => k_is)
    (case c18 => k_is)
    (case k18 => k_is)
    (case a19 => k_is)
    (case l19 => k_is)
    (case c19 => k_is)
    (case k19 => k_is)
    (case a20 => k_is)
    (case l20 => k_is)
    (case c20 => k_is)
    (case k20 => k_is)
    (case a21 => k_is)
    (case l21 => k_is)
    (case c21 => k_is)
    (case k21 => k_is)
    (case a22 => k_is)
    (case l22 => k_is)
    (case c22 => k_is)
    (case k22 => k_is)
    (case a23 => k_is)
    (case l23 => k_is)
    (case c23 => k_is)
    (case k23 => k_is)
    (case a24 => k_is)
    (case l24 => k_is)
    (case c24 => k_is)
    (case k24 => k_is)
    (case a25 => k_is)
    (case l25 => k_is)
    (case c25 => k_is)
    (case k25 => k_is)
    (case a26 => k_is)
    (case l26 => k_is)
    (case c26 => k_is)
    (case k26 => k_is)
    (case a27 => k_is)
    (case l27 => k_is)
    (case c27 => k_is)
    (case k27 => k_is)
    (case a28 => k_is)
    (case l28 => k_is)
    (case c28 => k_is)
    (case k28 => k_is)
    (case a29 => k_is)
    (case l29 => k_is)
    (case c29 => k_is)
    (case k29 => k_is)
    (case a30 => k_is)
    (case l30 => k_is)
    (case c30 => k_is)
    (case k30 => k_is)
    (case a31 => k_is)
    (case l31 => k_is)
    (case c31 => k_is)
    (case k31 => k_is)
    (case a32 => k_is)
    (case l32 => k_is)
    (case c32 => k_is)
    (case k32 => k_is)
    (case a33 => k_is)
    (case l33 => k_is)
    (case c33 => k_is)
    (case k33 => k_is)
    (case z_all => k_is)
    (case z_bool => k_is)
    (case z_enumerate => k_is)
    (case z_int => k_is)
    (case z_isinstance => k_is)
    (case z_len => k_is)
    (case z_list => k_is)
    (case z_max => k_is)
    (case z_min => k_is)
    (case z_range => k_is)
    (case z_repr => k_is)
    (case z_sorted => k_is)
    (case z_str => k_is)
    (case z_tuple => k_is)
    (case y_ANY_SIGN => k_is)
    (case y_FIRST_END => k_is)
    (case y_LAST_END => k_is)
    (case y_LETTERS => k_is)
    (case y_MOST_PRICE => k_is)
    (case y_MOST_RULES => k_is)
#print axioms PySem.Challenge.cw_strikeline_k03_whole_books_put_together_holds
