import PyProof.Rows.All
import Wide.All
import OpenK.AllK
import Wide.FinOn
import HandS.ForMost
import HandS.Exc
import HandS.Deep
import HandS.TupAny
import HandS.Style
import HandS.Wide
import HandS.WideMore
import HandS.IsInst
import HandS.TupLen
import HandS.TupMul
import HandS.Conv
import PyProof.ReprRoads
import PyProof.TupleOfStr
import HandS.Flow
import KE.KEqDict
import KE.GoesEnum
import HandS.Small
import HandS.Defaults
import HandS.SortInts
import HandS.SetFor
import KE.DataMinMax
import HandS.SortKw
import HandS.SetKeys
import PySem.Challenge.RW_strikeline_k20_whole_first_and_last
set_option Elab.async false
set_option linter.all false
set_option maxRecDepth 100000
set_option maxHeartbeats 4000000
/-! FD: what a text denotes as a function of plain data, over the hand layer: values, the state, the judgements. -/
namespace FD
open PySem L2

abbrev D := PyData
/-- what a slot holds: data that nobody changes any more, or a tree of things that this slot alone owns -/
inductive M where
  | im (d : D)
  | ls (ms : List M)
  | dk (kvs : List (Key × M))
  | dt (kvs : List (List Key × M))
  | ob (C : Str) (fs : List (Str × M))
  | gone

abbrev Env := List (Option M)
inductive Out (α : Type) where
  | ok (a : α) (e : Env)
  | ex (C : Addr) (fs : List (Str × D)) (e : Env)
  | no
abbrev EM (α : Type) := Env → Out α
def bnd {α β : Type} (f : EM α) (k : α → EM β) : EM β := fun e => match f e with
  | .ok a e' => k a e'
  | .ex C fs e' => .ex C fs e'
  | .no => .no
def ret {α : Type} (a : α) : EM α := fun e => .ok a e
/-- a partial operation on data -/
def lif {α : Type} : Option α → EM α
  | some a => fun e => .ok a e
  | none => fun _ => .no

def keyD : Key → D
  | .inl i => .int i
  | .inr x => .str x

/-! ### heaps -/
/-- what F knows stands in H; a tuple just so -/
structure Sub (F H : Hp) : Prop where
  rd : ∀ a u, Rd F a u → Rd H a u
  tp : ∀ a vs, F a = some (.tup vs) → H a = some (.tup vs)
  fz : ∀ a o u, F a = some (.frz o u) → H a = some (.frz o u)
theorem Sub.refl (F : Hp) : Sub F F := ⟨fun _ _ h => h, fun _ _ h => h, fun _ _ _ h => h⟩
theorem Sub.trans {F G H : Hp} (a : Sub F G) (b : Sub G H) : Sub F H := ⟨fun x u h => b.rd x u (a.rd x u h), fun x u h => b.tp x u (a.tp x u h), fun x o u h => b.fz x o u (a.fz x o u h)⟩
theorem Sub.l {K : PySem.W.Frag} {F H : Hp} {a : Addr} {xs : List V} (s : Sub F H) (h : SqL K F a xs) : SqL K H a xs := h.imp (s.rd a _) id
theorem Sub.t {K : PySem.W.Frag} {F H : Hp} {a : Addr} {xs : List V} (s : Sub F H) (h : F a = some (.tup xs)) : SqT K H a xs := SqT.of (s.tp a xs h)
theorem rd_none {F : Hp} {a : Addr} {u : HO} (h : F a = none) : ¬ Rd F a u := fun r => by
  rcases r with r | ⟨_, r⟩
  · rw [h] at r; cases r
  · rw [h] at r; cases r
theorem Sub.non {F H : Hp} {a : Addr} (s : Sub F H) (h : H a = none) : F a = none := by
  cases e : F a with
  | none => rfl
  | some o => exact absurd (s.rd a o (.inl e)) (rd_none h)
/-- the same at a -/
theorem rd_at {F G : Hp} {a : Addr} {u : HO} (e : G a = F a) (r : Rd F a u) : Rd G a u := by
  unfold Rd at r ⊢
  rw [e]
  exact r
theorem Sub.new {F : Hp} {p : Addr} {o : HO} (h : F p = none) : Sub F (upd F p o) where
  rd := fun a u r => rd_at (upd_ne fun e => rd_none (by rw [e]; exact h) r) r
  tp := fun a vs q => by
    rw [upd_ne (ne_of_none q h)]
    exact q
  fz := fun a _ _ q => by
    rw [upd_ne (ne_of_none q h)]
    exact q
theorem Sub.both {F H : Hp} {p : Addr} {o : HO} (s : Sub F H) : Sub (upd F p o) (upd H p o) where
  rd := fun a u r => by
    by_cases e : a = p
    · subst e
      exact rd_at (by rw [upd_same, upd_same]) r
    · exact rd_at (upd_ne e) (s.rd a u (rd_at (upd_ne e).symm r))
  tp := fun a vs q => by
    by_cases e : a = p
    · subst e
      rw [upd_same] at q ⊢
      exact q
    · rw [upd_ne e] at q ⊢
      exact s.tp a vs q
  fz := fun a ob u q => by
    by_cases e : a = p
    · subst e
      rw [upd_same] at q ⊢
      exact q
    · rw [upd_ne e] at q ⊢
      exact s.fz a ob u q
/-- what F does not know may change -/
theorem Sub.mut {F H : Hp} {p : Addr} {o : HO} (s : Sub F H) (h : F p = none) : Sub F (upd H p o) where
  rd := fun a u r => rd_at (upd_ne fun e => rd_none (by rw [e]; exact h) r) (s.rd a u r)
  tp := fun a vs q => by
    rw [upd_ne (ne_of_none q h)]
    exact s.tp a vs q
  fz := fun a ob u q => by
    rw [upd_ne (ne_of_none q h)]
    exact s.fz a ob u q

/-! ### data in a heap -/
mutual
inductive Rp (K : PySem.W.Frag) (F : Hp) : V → D → Prop
  | non : Rp K F .non .none
  | bl (b : Bool) : Rp K F (.bl b) (.bool b)
  | int (i : Int) : Rp K F (.int i) (.int i)
  | str (x : Str) : Rp K F (.str x) (.str x)
  | lst {a : Addr} {vs : List V} {ds : List D} : SqL K F a vs → RpL K F vs ds → Rp K F (.ref a) (.list ds)
  | tup {a : Addr} {vs : List V} {ds : List D} : F a = some (.tup vs) → RpL K F vs ds → Rp K F (.ref a) (.tuple ds)
  | dK {a : Addr} {kvs : List (Key × V)} {kds : List (Key × D)} : Rd F a (.dK kvs) → kvs.map (·.1) = kds.map (·.1) → RpL K F (kvs.map (·.2)) (kds.map (·.2)) → Rp K F (.ref a) (.dict (kds.map fun p => (keyD p.1, p.2)))
  | dT {a : Addr} {kvs : List (List Key × V)} {kds : List (List Key × D)} : Rd F a (.dT kvs) → kvs.map (·.1) = kds.map (·.1) → RpL K F (kvs.map (·.2)) (kds.map (·.2)) → Rp K F (.ref a) (.dict (kds.map fun p => (.tuple (p.1.map keyD), p.2)))
inductive RpL (K : PySem.W.Frag) (F : Hp) : List V → List D → Prop
  | nil : RpL K F [] []
  | cons {v : V} {vs : List V} {d : D} {ds : List D} : Rp K F v d → RpL K F vs ds → RpL K F (v :: vs) (d :: ds)
end
mutual
theorem Rp.mono {K : PySem.W.Frag} {F G : Hp} (s : Sub F G) : ∀ {v : V} {d : D}, Rp K F v d → Rp K G v d
  | _, _, .non => .non
  | _, _, .bl b => .bl b
  | _, _, .int i => .int i
  | _, _, .str x => .str x
  | _, _, .lst h r => .lst (s.l h) (RpL.mono s r)
  | _, _, .tup h r => .tup (s.tp _ _ h) (RpL.mono s r)
  | _, _, .dK h e r => .dK (s.rd _ _ h) e (RpL.mono s r)
  | _, _, .dT h e r => .dT (s.rd _ _ h) e (RpL.mono s r)
theorem RpL.mono {K : PySem.W.Frag} {F G : Hp} (s : Sub F G) : ∀ {vs : List V} {ds : List D}, RpL K F vs ds → RpL K G vs ds
  | _, _, .nil => .nil
  | _, _, .cons h r => .cons (Rp.mono s h) (RpL.mono s r)
end
theorem RpL.length {K : PySem.W.Frag} {F : Hp} : ∀ {vs : List V} {ds : List D}, RpL K F vs ds → vs.length = ds.length
  | _, _, .nil => rfl
  | _, _, .cons _ r => by rw [List.length_cons, List.length_cons, r.length]
theorem RpL.get {K : PySem.W.Frag} {F : Hp} : ∀ {vs : List V} {ds : List D} {i : Nat} {d : D}, RpL K F vs ds → ds[i]? = some d → ∃ v, vs[i]? = some v ∧ Rp K F v d
  | _, _, _, _, .nil, e => by simp at e
  | _, _, 0, _, .cons h _, e => by simp at e; subst e; exact ⟨_, rfl, h⟩
  | _, _, i + 1, d, .cons _ r, e => by
    obtain ⟨v, h1, h2⟩ := r.get (i := i) (d := d) (by simpa using e)
    exact ⟨v, by simpa using h1, h2⟩
theorem RpL.get' {K : PySem.W.Frag} {F : Hp} : ∀ {vs : List V} {ds : List D} {i : Nat} {v : V}, RpL K F vs ds → vs[i]? = some v → ∃ d, ds[i]? = some d ∧ Rp K F v d
  | _, _, _, _, .nil, e => by simp at e
  | _, _, 0, _, .cons h _, e => by simp at e; subst e; exact ⟨_, rfl, h⟩
  | _, _, i + 1, v, .cons _ r, e => by
    obtain ⟨d, h1, h2⟩ := r.get' (i := i) (v := v) (by simpa using e)
    exact ⟨d, by simpa using h1, h2⟩
theorem RpL.append {K : PySem.W.Frag} {F : Hp} : ∀ {vs us : List V} {ds es : List D}, RpL K F vs ds → RpL K F us es → RpL K F (vs ++ us) (ds ++ es)
  | _, _, _, _, .nil, r => r
  | _, _, _, _, .cons h t, r => .cons h (t.append r)
theorem RpL.take {K : PySem.W.Frag} {F : Hp} : ∀ {vs : List V} {ds : List D} (n : Nat), RpL K F vs ds → RpL K F (vs.take n) (ds.take n)
  | _, _, 0, _ => .nil
  | _, _, _ + 1, .nil => .nil
  | _, _, n + 1, .cons h t => .cons h (RpL.take n t)
theorem RpL.drop {K : PySem.W.Frag} {F : Hp} : ∀ {vs : List V} {ds : List D} (n : Nat), RpL K F vs ds → RpL K F (vs.drop n) (ds.drop n)
  | _, _, 0, r => r
  | _, _, _ + 1, .nil => .nil
  | _, _, n + 1, .cons _ t => RpL.drop n t
theorem RpL.reverse {K : PySem.W.Frag} {F : Hp} : ∀ {vs : List V} {ds : List D}, RpL K F vs ds → RpL K F vs.reverse ds.reverse
  | _, _, .nil => .nil
  | _, _, .cons h t => by
    rw [List.reverse_cons, List.reverse_cons]
    exact t.reverse.append (.cons h .nil)

/-! ### what is owned -/
mutual
inductive Own (K : PySem.W.Frag) (F H : Hp) : V → M → List Addr → Prop
  | im {v : V} {d : D} : Rp K F v d → Own K F H v (.im d) []
  | gone {v : V} : Own K F H v .gone []
  | ls {a : Addr} {vs : List V} {ms : List M} {fp : List Addr} : H a = some (.lst vs) → OwnL K F H vs ms fp → Own K F H (.ref a) (.ls ms) (a :: fp)
  | dk {a : Addr} {kvs : List (Key × V)} {kms : List (Key × M)} {fp : List Addr} : H a = some (.dK kvs) → kvs.map (·.1) = kms.map (·.1) → OwnL K F H (kvs.map (·.2)) (kms.map (·.2)) fp → Own K F H (.ref a) (.dk kms) (a :: fp)
  | dt {a : Addr} {kvs : List (List Key × V)} {kms : List (List Key × M)} {fp : List Addr} : H a = some (.dT kvs) → kvs.map (·.1) = kms.map (·.1) → OwnL K F H (kvs.map (·.2)) (kms.map (·.2)) fp → Own K F H (.ref a) (.dt kms) (a :: fp)
  | ob {a ca dx : Addr} {C : Str} {fs : List (Str × V)} {fms : List (Str × M)} {fp : List Addr} : PySem.W.nsIn K mainGlobals C = some (some (.ref ca)) → H a = some (.ins ca dx fs) → fs.map (·.1) = fms.map (·.1) → OwnL K F H (fs.map (·.2)) (fms.map (·.2)) fp → Own K F H (.ref a) (.ob C fms) (a :: fp)
inductive OwnL (K : PySem.W.Frag) (F H : Hp) : List V → List M → List Addr → Prop
  | nil : OwnL K F H [] [] []
  | cons {v : V} {vs : List V} {m : M} {ms : List M} {fp fq : List Addr} : Own K F H v m fp → OwnL K F H vs ms fq → OwnL K F H (v :: vs) (m :: ms) (fp ++ fq)
end
mutual
theorem Own.mono {K : PySem.W.Frag} {F G H J : Hp} (s : Sub F G) : ∀ {v : V} {m : M} {fp : List Addr}, (∀ a ∈ fp, ∀ o, H a = some o → J a = some o) → Own K F H v m fp → Own K G J v m fp
  | _, _, _, k, .im r => .im (r.mono s)
  | _, _, _, k, .gone => .gone
  | _, _, _, k, .ls h r => .ls (k _ (List.mem_cons_self) _ h) (OwnL.mono s (fun a q => k a (List.mem_cons_of_mem _ q)) r)
  | _, _, _, k, .dk h e r => .dk (k _ (List.mem_cons_self) _ h) e (OwnL.mono s (fun a q => k a (List.mem_cons_of_mem _ q)) r)
  | _, _, _, k, .dt h e r => .dt (k _ (List.mem_cons_self) _ h) e (OwnL.mono s (fun a q => k a (List.mem_cons_of_mem _ q)) r)
  | _, _, _, k, .ob hC h e r => .ob hC (k _ (List.mem_cons_self) _ h) e (OwnL.mono s (fun a q => k a (List.mem_cons_of_mem _ q)) r)
theorem OwnL.mono {K : PySem.W.Frag} {F G H J : Hp} (s : Sub F G) : ∀ {vs : List V} {ms : List M} {fp : List Addr}, (∀ a ∈ fp, ∀ o, H a = some o → J a = some o) → OwnL K F H vs ms fp → OwnL K G J vs ms fp
  | _, _, _, _, .nil => .nil
  | _, _, _, k, .cons h r => .cons (Own.mono s (fun a q => k a (List.mem_append_left _ q)) h) (OwnL.mono s (fun a q => k a (List.mem_append_right _ q)) r)
end
mutual
theorem Own.live {K : PySem.W.Frag} {F H : Hp} : ∀ {v : V} {m : M} {fp : List Addr}, Own K F H v m fp → ∀ a ∈ fp, ∃ o, H a = some o
  | _, _, _, .im r, a, q => by cases q
  | _, _, _, .gone, a, q => by cases q
  | _, _, _, .ls h r, a, q => (List.mem_cons.mp q).elim (fun e => e ▸ ⟨_, h⟩) (fun z => r.live a z)
  | _, _, _, .dk h _ r, a, q => (List.mem_cons.mp q).elim (fun e => e ▸ ⟨_, h⟩) (fun z => r.live a z)
  | _, _, _, .dt h _ r, a, q => (List.mem_cons.mp q).elim (fun e => e ▸ ⟨_, h⟩) (fun z => r.live a z)
  | _, _, _, .ob _ h _ r, a, q => (List.mem_cons.mp q).elim (fun e => e ▸ ⟨_, h⟩) (fun z => r.live a z)
theorem OwnL.live {K : PySem.W.Frag} {F H : Hp} : ∀ {vs : List V} {ms : List M} {fp : List Addr}, OwnL K F H vs ms fp → ∀ a ∈ fp, ∃ o, H a = some o
  | _, _, _, .nil, a, q => by cases q
  | _, _, _, .cons h r, a, q => (List.mem_append.mp q).elim (fun z => h.live a z) (fun z => r.live a z)
end
mutual
theorem Own.ntup {K : PySem.W.Frag} {F H : Hp} : ∀ {v : V} {m : M} {fp : List Addr}, Own K F H v m fp → ∀ a ∈ fp, ∀ vs, H a ≠ some (.tup vs)
  | _, _, _, .im r, a, q => by cases q
  | _, _, _, .gone, a, q => by cases q
  | _, _, _, .ls h r, a, q => (List.mem_cons.mp q).elim (fun e vs z => by rw [e, h] at z; cases z) (fun z => r.ntup a z)
  | _, _, _, .dk h _ r, a, q => (List.mem_cons.mp q).elim (fun e vs z => by rw [e, h] at z; cases z) (fun z => r.ntup a z)
  | _, _, _, .dt h _ r, a, q => (List.mem_cons.mp q).elim (fun e vs z => by rw [e, h] at z; cases z) (fun z => r.ntup a z)
  | _, _, _, .ob _ h _ r, a, q => (List.mem_cons.mp q).elim (fun e vs z => by rw [e, h] at z; cases z) (fun z => r.ntup a z)
theorem OwnL.ntup {K : PySem.W.Frag} {F H : Hp} : ∀ {vs : List V} {ms : List M} {fp : List Addr}, OwnL K F H vs ms fp → ∀ a ∈ fp, ∀ vs, H a ≠ some (.tup vs)
  | _, _, _, .nil, a, q => by cases q
  | _, _, _, .cons h r, a, q => (List.mem_append.mp q).elim (fun z => h.ntup a z) (fun z => r.ntup a z)
end
/-- a row of data, held by an owner -/
theorem OwnL.ims {K : PySem.W.Frag} {F H : Hp} : ∀ {vs : List V} {ds : List D}, RpL K F vs ds → OwnL K F H vs (ds.map M.im) []
  | _, _, .nil => .nil
  | _, _, .cons h r => OwnL.cons (fp := []) (fq := []) (.im h) (OwnL.ims r)
theorem OwnL.of_ims {K : PySem.W.Frag} {F H : Hp} : ∀ {vs : List V} {ds : List D} {fp : List Addr}, OwnL K F H vs (ds.map M.im) fp → RpL K F vs ds ∧ fp = []
  | _, [], _, .nil => ⟨.nil, rfl⟩
  | _, _ :: _, _, .cons h r => by
    cases h with
    | im h =>
      obtain ⟨q, e⟩ := OwnL.of_ims r
      subst e
      exact ⟨.cons h q, rfl⟩
theorem OwnL.length {K : PySem.W.Frag} {F H : Hp} : ∀ {vs : List V} {ms : List M} {fp : List Addr}, OwnL K F H vs ms fp → vs.length = ms.length
  | _, _, _, .nil => rfl
  | _, _, _, .cons _ r => by rw [List.length_cons, List.length_cons, r.length]

/-! ### the state -/
/-- nothing stands there, or a tuple -/
def Nw (H : Hp) (a : Addr) : Prop := ∀ o, H a = some o → ∃ vs, o = HO.tup vs
theorem nw_of {H : Hp} {a : Addr} (h : H a = none) : Nw H a := fun o q => by rw [h] at q; cases q
/-- from one state's heaps to another's: P what may be changed -/
structure Stp (F H : Hp) (P : Addr → Prop) (F' H' : Hp) (P' : Addr → Prop) : Prop where
  ext : Sub F F'
  keep : ∀ a o, H a = some o → ¬ P a → (F a = none ∨ ∃ vs, o = HO.tup vs) → H' a = some o
  live : ∀ a, H' a = none → H a = none
  newF : ∀ a, F' a ≠ none → F a ≠ none ∨ P a ∨ Nw H a
  newP : ∀ a, P' a → P a ∨ H a = none
theorem Stp.refl (F H : Hp) (P : Addr → Prop) : Stp F H P F H P := ⟨Sub.refl F, fun _ _ h _ _ => h, fun _ h => h, fun _ h => .inl h, fun _ h => .inl h⟩
theorem Stp.trans {F H F1 H1 F2 H2 : Hp} {P P1 P2 : Addr → Prop} (a : Stp F H P F1 H1 P1) (b : Stp F1 H1 P1 F2 H2 P2) : Stp F H P F2 H2 P2 where
  ext := a.ext.trans b.ext
  keep := fun x o h n f => b.keep x o (a.keep x o h n f) (fun q => (a.newP x q).elim n fun z => by rw [h] at z; cases z) (by
    rcases f with f | f
    · cases e : F1 x with
      | none => exact .inl rfl
      | some o1 =>
        rcases a.newF x (by rw [e]; intro z; cases z) with z | z | z
        · exact absurd f z
        · exact absurd z n
        · exact .inr (z o h)
    · exact .inr f)
  live := fun x h => a.live x (b.live x h)
  newF := fun x h => by
    rcases b.newF x h with q | q | q
    · exact a.newF x q
    · rcases a.newP x q with z | z
      · exact .inr (.inl z)
      · exact .inr (.inr (nw_of z))
    · by_cases p : P x
      · exact .inr (.inl p)
      · by_cases f : F x = none
        · exact .inr (.inr fun o ho => q o (a.keep x o ho p (.inl f)))
        · exact .inl f
  newP := fun x h => by
    rcases b.newP x h with q | q
    · exact a.newP x q
    · exact .inr (a.live x q)

def Pf (fp : Nat → List Addr) : Addr → Prop := fun a => ∃ i, a ∈ fp i
/-- the slots hold what the environment says; bv: slots that may not be stored to, with what they hold -/
structure SS (K : PySem.W.Frag) (bv : Nat → Option V) (e : Env) (σ : St) (F H : Hp) (fp : Nat → List Addr) : Prop where
  sub : Sub F H
  own : ∀ i m, e[i]? = some (some m) → ∃ v, σ[i]? = some (some v) ∧ Own K F H v m (fp i)
  nil : ∀ i a, a ∈ fp i → ∃ m, e[i]? = some (some m)
  nd : ∀ i, (fp i).Nodup
  dj : ∀ i j a, a ∈ fp i → a ∈ fp j → i = j
  fr : ∀ i a, a ∈ fp i → F a = none
  bor : ∀ i v, bv i = some v → σ[i]? = some (some v)
  len : e.length = σ.length

theorem SS.live {K : PySem.W.Frag} {bv : Nat → Option V} {e : Env} {σ : St} {F H : Hp} {fp : Nat → List Addr} (S : SS K bv e σ F H fp) {i : Nat} {a : Addr} (h : a ∈ fp i) : ∃ o, H a = some o := by
  obtain ⟨m, q⟩ := S.nil i a h
  obtain ⟨v, _, o⟩ := S.own i m q
  exact o.live a h
theorem SS.ntup {K : PySem.W.Frag} {bv : Nat → Option V} {e : Env} {σ : St} {F H : Hp} {fp : Nat → List Addr} (S : SS K bv e σ F H fp) {i : Nat} {a : Addr} (h : a ∈ fp i) (vs : List V) : H a ≠ some (.tup vs) := by
  obtain ⟨m, q⟩ := S.nil i a h
  obtain ⟨v, _, o⟩ := S.own i m q
  exact o.ntup a h vs
/-- other heaps that keep what the slots own -/
theorem SS.heap {K : PySem.W.Frag} {bv : Nat → Option V} {e : Env} {σ : St} {F H F' H' : Hp} {fp : Nat → List Addr} (S : SS K bv e σ F H fp) (s : Sub F F') (sub : Sub F' H') (k : ∀ i a o, a ∈ fp i → H a = some o → H' a = some o) (fr : ∀ i a, a ∈ fp i → F' a = none) : SS K bv e σ F' H' fp where
  sub := sub
  own := fun i m h => by
    obtain ⟨v, q, o⟩ := S.own i m h
    exact ⟨v, q, o.mono s fun a z u hu => k i a u z hu⟩
  nil := S.nil
  nd := S.nd
  dj := S.dj
  fr := fr
  bor := S.bor
  len := S.len
/-- a new thing that nobody will change -/
theorem SS.new {K : PySem.W.Frag} {bv : Nat → Option V} {e : Env} {σ : St} {F H : Hp} {fp : Nat → List Addr} {p : Addr} {o : HO} (S : SS K bv e σ F H fp) (hp : H p = none) : SS K bv e σ (upd F p o) (upd H p o) fp :=
  S.heap (Sub.new (S.sub.non hp)) S.sub.both (fun i a u h q => by
    have ne : a ≠ p := ne_of_none q hp
    rw [upd_ne ne]
    exact q) fun i a h => by
      obtain ⟨u, q⟩ := S.live h
      rw [upd_ne (ne_of_none q hp)]
      exact S.fr i a h
theorem Stp.new {F H : Hp} {P : Addr → Prop} {p : Addr} {o : HO} (s : Sub F H) (hp : H p = none) : Stp F H P (upd F p o) (upd H p o) P where
  ext := Sub.new (s.non hp)
  keep := fun a u h _ _ => by
    rw [upd_ne (ne_of_none h hp)]
    exact h
  live := fun a h => by
    by_cases e : a = p
    · subst e; exact hp
    · rw [upd_ne e] at h; exact h
  newF := fun a h => by
    by_cases e : a = p
    · subst e; exact .inr (.inr (nw_of hp))
    · rw [upd_ne e] at h; exact .inl h
  newP := fun _ h => .inl h

/-! ### the judgements' readings -/
/-- an error's fields in the heap -/
def XRep (K : PySem.W.Frag) (F : Hp) (fs : List (Str × D)) (d : Option Addr) : Prop :=
  (fs = [] ∧ d = none) ∨ ∃ (dx : Addr) (fvs : List (Str × V)), d = some dx ∧ Rd F dx (.xd fvs) ∧ fvs.map (·.1) = fs.map (·.1) ∧ RpL K F (fvs.map (·.2)) (fs.map (·.2))


inductive Flow where
  | nxt
  | brk
  | cnt
  | ret (m : M)

/-- what a result is: from the heaps, the footprints, what may be changed behind it, the layer's result, the denoted one -/
abbrev RG (τ α : Type) := Hp → Hp → (Nat → List Addr) → (Addr → Prop) → τ → α → Prop
/-- a result that nobody owns -/
def smp {τ α : Type} (r : Hp → τ → α → Prop) : RG τ α := fun F _ fp P x a => P = Pf fp ∧ r F x a
def rD (K : PySem.W.Frag) : Hp → V → D → Prop := fun F v d => Rp K F v d
def rL (K : PySem.W.Frag) : Hp → List V → List D → Prop := fun F v d => RpL K F v d
def rB : Hp → Bool → Bool → Prop := fun _ x b => x = b
/-- a result that is owned by whoever takes it -/
def rM (K : PySem.W.Frag) : RG V M := fun F H fp P v m => ∃ fpr : List Addr, P = (fun a => Pf fp a ∨ a ∈ fpr) ∧ Own K F H v m fpr ∧ fpr.Nodup ∧ (∀ a ∈ fpr, ¬ Pf fp a) ∧ ∀ a ∈ fpr, F a = none

section
variable (K : PySem.W.Frag) (W : WX) (bv : Nat → Option V)
def AtG {τ α : Type} (R : RG τ α) (f : EM α) (e : Env) (σ : St) (F H : Hp) (fp : Nat → List Addr) (Q : τ → Hp → Prop) : Prop := match f e with
  | .ok a e' => ∀ x F' H' fp' P', Stp F H (Pf fp) F' H' P' → SS K bv e' σ F' H' fp' → R F' H' fp' P' x a → Q x H'
  | .ex C fs e' => ∀ F' H' fp' dx, Stp F H (Pf fp) F' H' (Pf fp') → SS K bv e' σ F' H' fp' → XRep K F' fs dx → W (.ref C) dx σ H'
  | .no => False
def tG {τ α : Type} (R : RG τ α) (f : EM α) : St → Hp → (τ → Hp → Prop) → Prop := fun σ H Q => ∃ e F fp, SS K bv e σ F H fp ∧ AtG K W bv R f e σ F H fp Q
/-- an expression that gives data; one that gives a thing to own; a test; arguments -/
abbrev tE (f : EM D) : TE := tG K W bv (smp (rD K)) f
abbrev tM (f : EM M) : TE := tG K W bv (rM K) f
abbrev tT (f : EM Bool) : TT := tG K W bv (smp rB) f
abbrev tA (f : EM (List D)) : TA := tG K W bv (smp (rL K)) f
def OutS (o : Out Flow) (F H : Hp) (fp : Nat → List Addr) (D : Ends) : Prop := match o with
  | .ok .nxt e' => ∀ σ' F' H' fp', Stp F H (Pf fp) F' H' (Pf fp') → SS K bv e' σ' F' H' fp' → D.nx σ' H'
  | .ok .brk e' => ∀ σ' F' H' fp', Stp F H (Pf fp) F' H' (Pf fp') → SS K bv e' σ' F' H' fp' → D.bk σ' H'
  | .ok .cnt e' => ∀ σ' F' H' fp', Stp F H (Pf fp) F' H' (Pf fp') → SS K bv e' σ' F' H' fp' → D.ct σ' H'
  | .ok (.ret m) e' => ∀ v σ' F' H' fp' P', Stp F H (Pf fp) F' H' P' → SS K bv e' σ' F' H' fp' → rM K F' H' fp' P' v m → D.rt v H'
  | .ex C fs e' => ∀ σ' F' H' fp' dx, Stp F H (Pf fp) F' H' (Pf fp') → SS K bv e' σ' F' H' fp' → XRep K F' fs dx → W (.ref C) dx σ' H'
  | .no => False
def AtS (g : EM Flow) (e : Env) (σ : St) (F H : Hp) (fp : Nat → List Addr) (D : Ends) : Prop := OutS K W bv (g e) F H fp D
def tS (g : EM Flow) : TS := fun D σ H => ∃ e F fp, SS K bv e σ F H fp ∧ AtS K W bv g e σ F H fp D
end

section
variable {K : PySem.W.Frag} {W : WX} {bv : Nat → Option V} {e : Env} {σ : St} {F H : Hp} {fp : Nat → List Addr} {τ α τ' β : Type}
/-- from further back -/
theorem AtG.back {R : RG τ α} {f : EM α} {F0 H0 : Hp} {fp0 : Nat → List Addr} {Q : τ → Hp → Prop} (s : Stp F0 H0 (Pf fp0) F H (Pf fp)) (h : AtG K W bv R f e σ F0 H0 fp0 Q) : AtG K W bv R f e σ F H fp Q := by
  unfold AtG at h ⊢
  cases q : f e with
  | no => rw [q] at h; exact h
  | ex C fs e' => rw [q] at h; exact fun F' H' fp' dx s' => h F' H' fp' dx (s.trans s')
  | ok a e' => rw [q] at h; exact fun x F' H' fp' P' s' => h x F' H' fp' P' (s.trans s')
/-- two steps -/
theorem AtG.bnd {R : RG τ' β} {r : Hp → τ → α → Prop} {f : EM α} {k : α → EM β} {Q : τ' → Hp → Prop} (h : AtG K W bv R (bnd f k) e σ F H fp Q) :
    AtG K W bv (smp r) f e σ F H fp fun x H1 => ∃ a e1 F1 fp1, f e = .ok a e1 ∧ Stp F H (Pf fp) F1 H1 (Pf fp1) ∧ SS K bv e1 σ F1 H1 fp1 ∧ r F1 x a ∧ AtG K W bv R (k a) e1 σ F1 H1 fp1 Q := by
  unfold AtG FD.bnd at h
  unfold AtG
  cases q : f e with
  | no => rw [q] at h; exact h
  | ex C fs e' => rw [q] at h; exact h
  | ok d e' =>
    rw [q] at h
    intro v F1 H1 fp1 P1 s1 S1 r1
    obtain ⟨rfl, r1⟩ := r1
    refine ⟨d, e', F1, fp1, rfl, s1, S1, r1, AtG.back s1 ?_⟩
    unfold AtG
    exact h
theorem tG.bnd {R : RG τ' β} {r : Hp → τ → α → Prop} {f : EM α} {k : α → EM β} {Q : τ' → Hp → Prop} (h : tG K W bv R (bnd f k) σ H Q) :
    tG K W bv (smp r) f σ H fun x H1 => ∃ a e1 F1 fp1, SS K bv e1 σ F1 H1 fp1 ∧ r F1 x a ∧ AtG K W bv R (k a) e1 σ F1 H1 fp1 Q := by
  obtain ⟨e, F, fp, S, h⟩ := h
  refine ⟨e, F, fp, S, ?_⟩
  have q := AtG.bnd (r := r) h
  unfold AtG at q ⊢
  cases z : f e with
  | no => rw [z] at q; exact q
  | ex C fs e' => rw [z] at q; exact q
  | ok a e' =>
    rw [z] at q
    intro x F' H' fp' P' s' S' r'
    obtain ⟨a, e1, F1, fp1, _, _, S1, r1, h1⟩ := q x F' H' fp' P' s' S' r'
    exact ⟨a, e1, F1, fp1, S1, r1, h1⟩
/-- the same, known where one stands -/
theorem AtG.bnd' {R : RG τ' β} {r : Hp → τ → α → Prop} {f : EM α} {k : α → EM β} {Q : τ' → Hp → Prop} (S : SS K bv e σ F H fp) (h : AtG K W bv R (FD.bnd f k) e σ F H fp Q) :
    tG K W bv (smp r) f σ H fun x H1 => ∃ a e1 F1 fp1, Sub F F1 ∧ SS K bv e1 σ F1 H1 fp1 ∧ r F1 x a ∧ AtG K W bv R (k a) e1 σ F1 H1 fp1 Q := by
  refine ⟨e, F, fp, S, ?_⟩
  have q := AtG.bnd (r := r) h
  unfold AtG at q ⊢
  cases z : f e with
  | no => rw [z] at q; exact q
  | ex C fs e' => rw [z] at q; exact q
  | ok a e' =>
    rw [z] at q
    intro x F' H' fp' P' s' S' r'
    obtain ⟨a, e1, F1, fp1, _, s1, S1, r1, h1⟩ := q x F' H' fp' P' s' S' r'
    exact ⟨a, e1, F1, fp1, s1.ext, S1, r1, h1⟩
/-- the end: data that stands already -/
theorem AtG.here {r : Hp → τ → α → Prop} {a : α} {Q : τ → Hp → Prop} {x : τ} (S : SS K bv e σ F H fp) (h : AtG K W bv (smp r) (FD.ret a) e σ F H fp Q) (hr : r F x a) : Q x H :=
  h x F H fp _ (Stp.refl _ _ _) S ⟨rfl, hr⟩
/-- the end: a new thing that nobody changes -/
theorem AtG.made {r : Hp → τ → α → Prop} {a : α} {Q : τ → Hp → Prop} {x : τ} {p : Addr} {o : HO} (S : SS K bv e σ F H fp) (h : AtG K W bv (smp r) (FD.ret a) e σ F H fp Q) (hp : H p = none) (hr : r (upd F p o) x a) : Q x (upd H p o) :=
  h x _ _ fp _ (Stp.new S.sub hp) (S.new hp) ⟨rfl, hr⟩
theorem AtG.lif {R : RG τ α} {o : Option α} {Q : τ → Hp → Prop} (h : AtG K W bv R (FD.lif o) e σ F H fp Q) : ∃ a, o = some a ∧ AtG K W bv R (FD.ret a) e σ F H fp Q := by
  cases o with
  | none => exact False.elim h
  | some a => exact ⟨a, rfl, h⟩
end
end FD

/-! FD: expressions: names, constants, operators, tests, displays. -/
namespace FD
open PySem L2
abbrev DE (X : Cx) (W : WX) (bv : Nat → Option V) (e : Expr) (f : EM D) : Prop := PE X e (tE X.K W bv f)
abbrev DM (X : Cx) (W : WX) (bv : Nat → Option V) (e : Expr) (f : EM M) : Prop := PE X e (tM X.K W bv f)
abbrev DT (X : Cx) (W : WX) (bv : Nat → Option V) (e : Expr) (f : EM Bool) : Prop := PT X e (tT X.K W bv f)
abbrev DA (X : Cx) (W : WX) (bv : Nat → Option V) (es : List Expr) (f : EM (List D)) : Prop := PA X es (tA X.K W bv f)
abbrev DS (X : Cx) (W : WX) (bv : Nat → Option V) (st : Stmt) (g : EM Flow) : Prop := PS X st (tS X.K W bv g)
abbrev DSs (X : Cx) (W : WX) (bv : Nat → Option V) (sts : List Stmt) (g : EM Flow) : Prop := PSs X sts (tS X.K W bv g)
theorem pe_imp {X : Cx} {e : Expr} {t t' : TE} (h : PE X e t) (w : ∀ σ H Q, t' σ H Q → t σ H Q) : PE X e t' := ⟨fun pins s σ H Q I q => h.run pins s σ H Q I (w σ H Q q)⟩
theorem pt_imp {X : Cx} {e : Expr} {t t' : TT} (h : PT X e t) (w : ∀ σ H Q, t' σ H Q → t σ H Q) : PT X e t' := ⟨fun pins s σ H Q I q => h.run pins s σ H Q I (w σ H Q q)⟩
theorem pw_imp {X : Cx} {e : Expr} {t t' : TT} (h : PW X e t) (w : ∀ σ H Q, t' σ H Q → t σ H Q) : PW X e t' := ⟨fun wh pins s σ H Q I q => h.run wh pins s σ H Q I (w σ H Q q)⟩
theorem pa_imp {X : Cx} {e : List Expr} {t t' : TA} (h : PA X e t) (w : ∀ σ H Q, t' σ H Q → t σ H Q) : PA X e t' := ⟨fun pos pins s σ H Q I q => h.run pos pins s σ H Q I (w σ H Q q)⟩
theorem ps_imp {X : Cx} {e : Stmt} {t t' : TS} (h : PS X e t) (w : ∀ D σ H, t' D σ H → t D σ H) : PS X e t' := ⟨fun pins s σ H D I q => h.run pins s σ H D I (w D σ H q)⟩
theorem pss_imp {X : Cx} {e : List Stmt} {t t' : TS} (h : PSs X e t) (w : ∀ D σ H, t' D σ H → t D σ H) : PSs X e t' := ⟨fun pins s σ H D I q => h.run pins s σ H D I (w D σ H q)⟩

section
variable {K : PySem.W.Frag} {W : WX} {bv : Nat → Option V} {e : Env} {σ : St} {F H : Hp} {fp : Nat → List Addr} {τ α τ' β : Type}
theorem tG.mono {R : RG τ α} {f : EM α} {Q Q' : τ → Hp → Prop} (h : tG K W bv R f σ H Q) (hq : ∀ x H', Q x H' → Q' x H') : tG K W bv R f σ H Q' := by
  obtain ⟨e, F, fp, S, h⟩ := h
  refine ⟨e, F, fp, S, ?_⟩
  unfold AtG at h ⊢
  cases q : f e with
  | no => rw [q] at h; exact h
  | ex C fs e' => rw [q] at h; exact h
  | ok d e' => rw [q] at h; exact fun v F' H' fp' P' s S r => hq v H' (h v F' H' fp' P' s S r)
end

/-! ### constants, names -/
/-- data without an address -/
def flatD : D → Bool
  | .none => true
  | .bool _ => true
  | .int _ => true
  | .str _ => true
  | _ => false
def flatOf : D → V
  | .none => .non
  | .bool b => .bl b
  | .int i => .int i
  | .str x => .str x
  | _ => .non
theorem Rp.flat {K : PySem.W.Frag} {F : Hp} : ∀ {d : D}, flatD d = true → Rp K F (flatOf d) d
  | .none, _ => .non
  | .bool b, _ => .bl b
  | .int i, _ => .int i
  | .str x, _ => .str x
theorem Rp.flat_eq {K : PySem.W.Frag} {F : Hp} {v : V} : ∀ {d : D}, flatD d = true → Rp K F v d → v = flatOf d
  | .none, _, .non => rfl
  | .bool b, _, .bl _ => rfl
  | .int i, _, .int _ => rfl
  | .str x, _, .str _ => rfl

section
variable {X : Cx} {W : WX} {bv : Nat → Option V} {pos : Pos}
theorem de_c {e : Expr} {v : V} {d : D} (h : PE X e (tC v)) (r : ∀ F : Hp, Rp X.K F v d) : DE X W bv e (ret d) :=
  pe_imp h fun σ H Q ⟨e, F, fp, S, q⟩ => AtG.here S q (r F)
theorem de_int {i : Int} {j} : DE X W bv (.Constant (.int i) j pos) (ret (.int i)) := de_c pe_int fun _ => .int i
theorem de_bl {b : Bool} {j} : DE X W bv (.Constant (.bool b) j pos) (ret (.bool b)) := de_c pe_bl fun _ => .bl b
theorem de_non {j} : DE X W bv (.Constant .none j pos) (ret .none) := de_c pe_non fun _ => .non
theorem de_str {x : Str} {j} : DE X W bv (.Constant (.str x) j pos) (ret (.str x)) := de_c pe_str fun _ => .str x
/-- a module's name that holds flat data -/
theorem de_glob {x : Str} {d : D} {u : Value} (hf : flatD d = true) (hm : X.mg x = some u) (r : RelV (flatOf d) u) (hg : Gl X x := by rfl) (hd : (x == ("__debug__" : Str)) = false := by decide) : DE X W bv (.Name x pos) (ret d) :=
  de_c (pe_glob hg hm r hd) fun _ => Rp.flat hf

def imAll : List M → Option (List D)
  | [] => some []
  | .im d :: ms => (imAll ms).map (d :: ·)
  | _ :: _ => none
theorem imAll_im : ∀ ds : List D, imAll (ds.map M.im) = some ds
  | [] => rfl
  | d :: ds => by
    show (imAll (ds.map M.im)).map (d :: ·) = _
    rw [imAll_im ds]
    rfl
theorem of_imAll : ∀ {ms : List M} {ds : List D}, imAll ms = some ds → ms = ds.map M.im
  | [], _, h => by cases h; rfl
  | .im d :: ms, ds, h => by
    simp only [imAll, Option.map_eq_some_iff] at h
    obtain ⟨a, h1, h2⟩ := h
    subst h2
    rw [List.map_cons, ← of_imAll h1]
  | .ls _ :: _, _, h => by cases h
  | .dk _ :: _, _, h => by cases h
  | .dt _ :: _, _, h => by cases h
  | .ob _ _ :: _, _, h => by cases h
  | .gone :: _, _, h => by cases h
def M.toD : M → Option D
  | .im d => some d
  | .ls ms => (imAll ms).map .list
  | .dk kvs => (imAll (kvs.map (·.2))).map fun ds => .dict (((kvs.map (·.1)).zip ds).map fun p => (keyD p.1, p.2))
  | .dt kvs => (imAll (kvs.map (·.2))).map fun ds => .dict (((kvs.map (·.1)).zip ds).map fun p => (.tuple (p.1.map keyD), p.2))
  | .ob _ _ => none
  | .gone => none
/-- the heap F, but H at some places -/
def ov (H F : Hp) (l : List Addr) : Hp := fun a => if a ∈ l then H a else F a
theorem ov_in {H F : Hp} {l : List Addr} {a : Addr} (h : a ∈ l) : ov H F l a = H a := if_pos h
theorem ov_out {H F : Hp} {l : List Addr} {a : Addr} (h : a ∉ l) : ov H F l a = F a := if_neg h
def put (fp : Nat → List Addr) (i : Nat) (l : List Addr) : Nat → List Addr := fun j => if j = i then l else fp j
theorem put_same {fp : Nat → List Addr} {i : Nat} {l : List Addr} : put fp i l i = l := if_pos rfl
theorem put_ne {fp : Nat → List Addr} {i j : Nat} {l : List Addr} (h : j ≠ i) : put fp i l j = fp j := if_neg h
theorem Sub.ov {F H : Hp} {l : List Addr} (h : ∀ a ∈ l, F a = none) : Sub F (ov H F l) where
  rd := fun a u r => rd_at (ov_out fun z => rd_none (h a z) r) r
  tp := fun a vs q => by
    rw [ov_out fun z => by rw [h a z] at q; cases q]
    exact q
  fz := fun a ob u q => by
    rw [ov_out fun z => by rw [h a z] at q; cases q]
    exact q
theorem Sub.of_ov {F H : Hp} {l : List Addr} (s : Sub F H) : Sub (FD.ov H F l) H where
  rd := fun a u r => by
    by_cases n : a ∈ l
    · exact rd_at (ov_in n).symm r
    · exact s.rd a u (rd_at (ov_out n).symm r)
  tp := fun a vs q => by
    by_cases n : a ∈ l
    · rw [ov_in n] at q
      exact q
    · rw [ov_out n] at q
      exact s.tp a vs q
  fz := fun a ob u q => by
    by_cases n : a ∈ l
    · rw [ov_in n] at q
      exact q
    · rw [ov_out n] at q
      exact s.fz a ob u q
theorem Own.frozen {K : PySem.W.Frag} {F H : Hp} {v : V} {m : M} {d : D} {l : List Addr} (o : Own K F H v m l) (fr : ∀ a ∈ l, F a = none) (hd : m.toD = some d) : Rp K (ov H F l) v d := by
  have sF : Sub F (ov H F l) := Sub.ov fr
  cases o with
  | im r =>
    cases hd
    exact r.mono sF
  | ls h r =>
    rename_i a vs ms fp0
    obtain ⟨ds, h1, rfl⟩ := Option.map_eq_some_iff.mp hd
    rw [of_imAll h1] at r
    exact .lst (.inl (.inl ((ov_in List.mem_cons_self).trans h))) (r.of_ims.1.mono sF)
  | dk h k r =>
    rename_i a kvs kms fp0
    obtain ⟨ds, h1, rfl⟩ := Option.map_eq_some_iff.mp hd
    rw [of_imAll h1] at r
    have hl : (kms.map (·.1)).length = ds.length := by
      have := congrArg List.length (of_imAll h1)
      simpa using this
    refine .dK (kds := (kms.map (·.1)).zip ds) (.inl ((ov_in List.mem_cons_self).trans h)) ?_ ?_
    · rw [List.map_fst_zip (Nat.le_of_eq hl)]
      exact k
    · rw [List.map_snd_zip (Nat.le_of_eq hl.symm)]
      exact r.of_ims.1.mono sF
  | dt h k r =>
    rename_i a kvs kms fp0
    obtain ⟨ds, h1, rfl⟩ := Option.map_eq_some_iff.mp hd
    rw [of_imAll h1] at r
    have hl : (kms.map (·.1)).length = ds.length := by
      have := congrArg List.length (of_imAll h1)
      simpa using this
    refine .dT (kds := (kms.map (·.1)).zip ds) (.inl ((ov_in List.mem_cons_self).trans h)) ?_ ?_
    · rw [List.map_fst_zip (Nat.le_of_eq hl)]
      exact k
    · rw [List.map_snd_zip (Nat.le_of_eq hl.symm)]
      exact r.of_ims.1.mono sF
  | ob _ h k r => cases hd
  | gone => cases hd
/-- slot i holds something else that it owns; the rest is kept -/
theorem SS.put {K : PySem.W.Frag} {bv : Nat → Option V} {e : Env} {σ σ' : St} {F H F' H' : Hp} {fp : Nat → List Addr} {i : Nat} {v : V} {m : M} {l : List Addr} (S : SS K bv e σ F H fp) (sF : Sub F F') (sub : Sub F' H')
    (hi : i < e.length) (hv : σ'[i]? = some (some v)) (ho : ∀ j, j ≠ i → σ'[j]? = σ[j]?) (hl : σ'.length = σ.length) (hb : ∀ u, bv i = some u → u = v) (o : Own K F' H' v m l) (nd : l.Nodup) (fr : ∀ a ∈ l, F' a = none) (dj : ∀ j, j ≠ i → ∀ a ∈ fp j, a ∉ l)
    (k : ∀ j, j ≠ i → ∀ a ∈ fp j, ∀ u, H a = some u → H' a = some u) (frk : ∀ j, j ≠ i → ∀ a ∈ fp j, F' a = none) : SS K bv (e.set i (some m)) σ' F' H' (put fp i l) where
  sub := sub
  own := fun j m' h => by
    by_cases n : j = i
    · subst n
      rw [List.getElem?_set_self hi] at h
      cases h
      rw [put_same]
      exact ⟨v, hv, o⟩
    · rw [List.getElem?_set_ne (Ne.symm n)] at h
      obtain ⟨u, hu, q⟩ := S.own j m' h
      rw [put_ne n, ho j n]
      exact ⟨u, hu, q.mono sF fun a z u => k j n a z u⟩
  nil := fun j a h => by
    by_cases n : j = i
    · subst n
      rw [List.getElem?_set_self hi]
      exact ⟨m, rfl⟩
    · rw [put_ne n] at h
      rw [List.getElem?_set_ne (Ne.symm n)]
      exact S.nil j a h
  nd := fun j => by
    by_cases n : j = i
    · subst n; rw [put_same]; exact nd
    · rw [put_ne n]; exact S.nd j
  dj := fun j z a h1 h2 => by
    by_cases n : j = i
    · rw [n, put_same] at h1
      by_cases n' : z = i
      · exact n.trans n'.symm
      · rw [put_ne n'] at h2
        exact absurd h1 (dj z n' a h2)
    · by_cases n' : z = i
      · rw [n', put_same] at h2
        rw [put_ne n] at h1
        exact absurd h2 (dj j n a h1)
      · rw [put_ne n] at h1
        rw [put_ne n'] at h2
        exact S.dj j z a h1 h2
  fr := fun j a h => by
    by_cases n : j = i
    · subst n; rw [put_same] at h; exact fr a h
    · rw [put_ne n] at h; exact frk j n a h
  bor := fun j u h => by
    by_cases n : j = i
    · subst n; rw [hv, hb u h]
    · rw [ho j n]; exact S.bor j u h
  len := by rw [List.length_set, hl]; exact S.len
/-- what is owned becomes data that nobody changes any more -/
theorem SS.freeze {K : PySem.W.Frag} {bv : Nat → Option V} {e : Env} {σ : St} {F H : Hp} {fp : Nat → List Addr} {i : Nat} {m : M} {d : D} (S : SS K bv e σ F H fp) (he : e[i]? = some (some m)) (hd : m.toD = some d) :
    ∃ F' fp' v, Stp F H (Pf fp) F' H (Pf fp') ∧ SS K bv (e.set i (some (.im d))) σ F' H fp' ∧ σ[i]? = some (some v) ∧ Rp K F' v d := by
  obtain ⟨v, hv, o⟩ := S.own i m he
  have sF : Sub F (ov H F (fp i)) := Sub.ov fun a h => S.fr i a h
  have rp : Rp K (ov H F (fp i)) v d := o.frozen (fun a h => S.fr i a h) hd
  have hi : i < e.length := (List.getElem?_eq_some_iff.mp he).1
  refine ⟨_, FD.put fp i [], v, ⟨sF, fun _ _ h _ _ => h, fun _ h => h, fun a h => ?_, fun a h => ?_⟩, S.put sF S.sub.of_ov hi hv (fun _ _ => rfl) rfl (fun u hu => ?_) (.im rp) List.nodup_nil (fun a h => by cases h) (fun _ _ _ _ h => by cases h) (fun _ _ _ _ _ h => h) (fun j n a h => ?_), hv, rp⟩
  · by_cases n : a ∈ fp i
    · exact .inr (.inl ⟨i, n⟩)
    · rw [ov_out n] at h
      exact .inl h
  · obtain ⟨j, h⟩ := h
    by_cases n : j = i
    · subst n; rw [put_same] at h; cases h
    · rw [put_ne n] at h
      exact .inl ⟨j, h⟩
  · have q := S.bor i u hu
    rw [hv] at q
    cases q
    rfl
  · rw [ov_out fun q => n (S.dj j i a h q)]
    exact S.fr j a h

/-- a name: data, or what was owned, from then on data -/
def var (i : Nat) : EM D := fun e => match e[i]? with
  | some (some (.im d)) => .ok d e
  | some (some m) => match m.toD with
    | some d => .ok d (e.set i (some (.im d)))
    | none => .no
  | _ => .no
theorem var_at {K : PySem.W.Frag} {bv : Nat → Option V} {e : Env} {σ : St} {F H : Hp} {fp : Nat → List Addr} {i : Nat} {Q : VK} (S : SS K bv e σ F H fp) (h : AtG K W bv (smp (rD K)) (var i) e σ F H fp Q) : ∃ v, σ[i]? = some (some v) ∧ Q v H := by
  unfold AtG var at h
  cases q : e[i]? with
  | none => rw [q] at h; exact h.elim
  | some o =>
    rw [q] at h
    cases o with
    | none => exact h.elim
    | some m =>
      cases m with
      | im d =>
        obtain ⟨v, hv, r⟩ := S.own i _ q
        generalize fp i = l at r
        cases r with
        | im r => exact ⟨v, hv, h v F H fp _ (Stp.refl _ _ _) S ⟨rfl, r⟩⟩
      | _ =>
        simp only at h
        split at h
        · rename_i d hd
          split at hd
          · rename_i d' z
            injection hd with h1 h2
            subst h1 h2
            obtain ⟨F', fp', v, s', S', hv, r⟩ := S.freeze q z
            exact ⟨v, hv, h v F' H fp' _ s' S' ⟨rfl, r⟩⟩
          · cases hd
        · rename_i z
          split at z <;> cases z
        · exact h.elim
theorem de_var (i : Nat) {x : Str} (hN : X.N[i]? = some x := by rfl) (hv : Vis X.env.scope x := by first | exact Or.inl rfl | exact Or.inr (Or.inl rfl) | exact Or.inr (Or.inr rfl)) (hd : (x == ("__debug__" : Str)) = false := by decide)
    (hcd : (x == ("__classdict__" : Str)) = false := by decide) : DE X W bv (.Name x pos) (var i) :=
  pe_imp (pe_var hN hv hd hcd) fun σ H Q ⟨e, F, fp, S, q⟩ => var_at S q
end
end FD

/-! FD: operators, comparisons, tests, displays, subscripts. -/
namespace FD
open PySem L2
def bin (g : D → D → Option D) (fa fb : EM D) : EM D := bnd fa fun x => bnd fb fun y => lif (g x y)
def un (g : D → Option D) (fa : EM D) : EM D := bnd fa fun x => lif (g x)

/-- an operation of two values serves one of two data -/
def OpV (K : PySem.W.Frag) (r : R2) (g : D → D → Option D) : Prop := ∀ (W : WX) (bv : Nat → Option V) (e : Env) (σ : St) (F H : Hp) (fp : Nat → List Addr) (x y : V) (d1 d2 : D) (Q : VK),
  SS K bv e σ F H fp → Rp K F x d1 → Rp K F y d2 → AtG K W bv (smp (rD K)) (lif (g d1 d2)) e σ F H fp Q → r x y H Q
def OpD (X : Cx) (f : Value → Value → Sem Value) (g : D → D → Option D) : Prop := ∃ r : R2, OpR X f r ∧ OpV X.K r g
section
variable {K : PySem.W.Frag} {W : WX} {bv : Nat → Option V} {e : Env} {σ : St} {F H : Hp} {fp : Nat → List Addr}
theorem tOp_of {r : R2} {g : D → D → Option D} {fa fb : EM D} {Q : VK} (h : OpV K r g) (t : tE K W bv (bin g fa fb) σ H Q) : tOp r (tE K W bv fa) (tE K W bv fb) σ H Q := by
  refine tG.mono (tG.bnd (r := rD K) t) fun x H1 ⟨d1, e1, F1, fp1, S1, r1, q1⟩ => ?_
  refine tG.mono (AtG.bnd' (r := rD K) S1 q1) fun y H2 ⟨d2, e2, F2, fp2, s2, S2, r2, q2⟩ => ?_
  exact h W bv e2 σ F2 H2 fp2 x y d1 d2 Q S2 (r1.mono s2) r2 q2
end
section
variable {X : Cx} {W : WX} {bv : Nat → Option V} {pos : Pos} {a b c : Expr} {fa fb fc : EM D}
theorem de_bin {op : Operator} {g : D → D → Option D} (ho : OpD X (binaryOp op) g) (ha : DE X W bv a fa) (hb : DE X W bv b fb) : DE X W bv (.BinOp a op b pos) (bin g fa fb) := by
  obtain ⟨r, hr, h⟩ := ho
  exact pe_imp (pe_op hr ha hb) fun σ H Q t => tOp_of h t
theorem de_cmp {op : CmpOp} {g : D → D → Option D} (ho : OpD X (compareOp op) g) (ha : DE X W bv a fa) (hb : DE X W bv b fb) (hm : behindInMarks op b = false := by first | exact nomark _ | rfl) : DE X W bv (.Compare a [op] [b] pos) (bin g fa fb) := by
  obtain ⟨r, hr, h⟩ := ho
  exact pe_imp (pe_cmpR hr ha hb hm) fun σ H Q t => tOp_of h t
/-- the truth of True, False -/
def tst (f : EM D) : EM Bool := bnd f fun d => match d with
  | .bool b => ret b
  | _ => lif none
theorem tst_of {K : PySem.W.Frag} {σ : St} {H : Hp} {Q : Bool → Hp → Prop} (t : tT K W bv (tst fa) σ H Q) : tE K W bv fa σ H fun x H1 => ∃ k, x = .bl k ∧ Q k H1 := by
  refine tG.mono (tG.bnd (r := rD K) t) fun x H1 ⟨d1, e1, F1, fp1, S1, r1, q1⟩ => ?_
  cases r1 with
  | bl k => exact ⟨k, rfl, AtG.here (r := rB) S1 q1 rfl⟩
  | _ => exact q1.elim
theorem dt_val (ha : DE X W bv a fa) (he : ∀ whole, isTrue a X.env whole = (do let v ← whole; standAt a.pos; holding [v] (truthy v)) := by intro _; rfl) : DT X W bv a (tst fa) :=
  pt_imp (pt_val ha he) fun σ H Q t => tst_of t
theorem dt_cmp {op : CmpOp} {g : D → D → Option D} (ho : OpD X (compareOp op) g) (ha : DE X W bv a fa) (hb : DE X W bv b fb) (hm : behindInMarks op b = false := by first | exact nomark _ | rfl) : DT X W bv (.Compare a [op] [b] pos) (tst (bin g fa fb)) := by
  obtain ⟨r, hr, h⟩ := ho
  refine pt_imp (pt_cmpR hr ha hb hm) fun σ H Q t => ?_
  exact tOp_of h (tst_of t)
variable {ta tb : EM Bool}
def andT (ta tb : EM Bool) : EM Bool := bnd ta fun k => if k then tb else ret false
def orT (ta tb : EM Bool) : EM Bool := bnd ta fun k => if k then ret true else tb
def notT (ta : EM Bool) : EM Bool := bnd ta fun k => ret (!k)
abbrev DW (X : Cx) (W : WX) (bv : Nat → Option V) (e : Expr) (f : EM Bool) : Prop := PW X e (tT X.K W bv f)
variable {rest : List Expr}
theorem dw_and1 (h : DT X W bv a ta) : DW X W bv (.BoolOp .And [a] pos) ta := pw_and1 h
theorem dw_or1 (h : DT X W bv a ta) : DW X W bv (.BoolOp .Or [a] pos) ta := pw_or1 h
theorem dw_and (h : DT X W bv a ta) (h2 : DW X W bv (.BoolOp .And (b :: rest) pos) tb) : DW X W bv (.BoolOp .And (a :: b :: rest) pos) (andT ta tb) :=
  pw_imp (pw_and h h2) fun σ H Q t => by
    refine tG.mono (tG.bnd (r := rB) t) fun x H1 ⟨k, e1, F1, fp1, S1, r1, q1⟩ => ?_
    cases (show x = k from r1)
    cases x with
    | true => exact ⟨e1, F1, fp1, S1, q1⟩
    | false => exact AtG.here (r := rB) S1 q1 rfl
theorem dw_or (h : DT X W bv a ta) (h2 : DW X W bv (.BoolOp .Or (b :: rest) pos) tb) : DW X W bv (.BoolOp .Or (a :: b :: rest) pos) (orT ta tb) :=
  pw_imp (pw_or h h2) fun σ H Q t => by
    refine tG.mono (tG.bnd (r := rB) t) fun x H1 ⟨k, e1, F1, fp1, S1, r1, q1⟩ => ?_
    cases (show x = k from r1)
    cases x with
    | true => exact AtG.here (r := rB) S1 q1 rfl
    | false => exact ⟨e1, F1, fp1, S1, q1⟩
theorem dt_w (h : DW X W bv a ta) : DT X W bv a ta := PW.pt h
theorem dt_not (h : DT X W bv a ta) : DT X W bv (.UnaryOp .Not a pos) (notT ta) :=
  pt_imp (pt_not h) fun σ H Q t => by
    refine tG.mono (tG.bnd (r := rB) t) fun x H1 ⟨k, e1, F1, fp1, S1, r1, q1⟩ => ?_
    cases (show x = k from r1)
    exact AtG.here (r := rB) S1 q1 rfl
/-- and, or, not of True, False as values -/
def andV (fa fb : EM D) : EM D := bnd fa fun d => match d with
  | .bool true => fb
  | .bool false => ret (.bool false)
  | _ => lif none
def orV (fa fb : EM D) : EM D := bnd fa fun d => match d with
  | .bool true => ret (.bool true)
  | .bool false => fb
  | _ => lif none
def notV (fa : EM D) : EM D := bnd fa fun d => match d with
  | .bool k => ret (.bool (!k))
  | _ => lif none
theorem de_one {op} (h : DE X W bv a fa) : DE X W bv (.BoolOp op [a] pos) fa := pe_one h
theorem de_and (h : DE X W bv a fa) (h2 : DE X W bv (.BoolOp .And (b :: rest) pos) fb) : DE X W bv (.BoolOp .And (a :: b :: rest) pos) (andV fa fb) :=
  pe_imp (pe_and h h2) fun σ H Q t => by
    refine tG.mono (tG.bnd (r := rD X.K) t) fun x H1 ⟨d, e1, F1, fp1, S1, r1, q1⟩ => ?_
    cases r1 with
    | bl k =>
      cases k with
      | true => exact ⟨true, rfl, e1, F1, fp1, S1, q1⟩
      | false => exact ⟨false, rfl, AtG.here (r := rD X.K) S1 q1 (.bl false)⟩
    | _ => exact q1.elim
theorem de_or (h : DE X W bv a fa) (h2 : DE X W bv (.BoolOp .Or (b :: rest) pos) fb) : DE X W bv (.BoolOp .Or (a :: b :: rest) pos) (orV fa fb) :=
  pe_imp (pe_or h h2) fun σ H Q t => by
    refine tG.mono (tG.bnd (r := rD X.K) t) fun x H1 ⟨d, e1, F1, fp1, S1, r1, q1⟩ => ?_
    cases r1 with
    | bl k =>
      cases k with
      | true => exact ⟨true, rfl, AtG.here (r := rD X.K) S1 q1 (.bl true)⟩
      | false => exact ⟨false, rfl, e1, F1, fp1, S1, q1⟩
    | _ => exact q1.elim
theorem de_not (h : DE X W bv a fa) : DE X W bv (.UnaryOp .Not a pos) (notV fa) :=
  pe_imp (pe_not h) fun σ H Q t => by
    refine tG.mono (tG.bnd (r := rD X.K) t) fun x H1 ⟨d, e1, F1, fp1, S1, r1, q1⟩ => ?_
    cases r1 with
    | bl k => exact ⟨k, rfl, AtG.here (r := rD X.K) S1 q1 (.bl _)⟩
    | _ => exact q1.elim
def ifE (t : EM Bool) (fa fb : EM D) : EM D := bnd t fun k => if k then fa else fb
theorem de_if {c : Expr} (hc : DT X W bv c ta) (ha : DE X W bv a fa) (hb : DE X W bv b fb) : DE X W bv (.IfExp c a b pos) (ifE ta fa fb) :=
  pe_imp (pe_ifExp hc ha hb) fun σ H Q t => by
    refine tG.mono (tG.bnd (r := rB) t) fun x H1 ⟨k, e1, F1, fp1, S1, r1, q1⟩ => ?_
    cases (show x = k from r1)
    cases x with
    | true => exact ⟨e1, F1, fp1, S1, q1⟩
    | false => exact ⟨e1, F1, fp1, S1, q1⟩
/-- x < y < z -/
def chn (g g' : D → D → Option D) (fa fb fc : EM D) : EM D := bnd fa fun x => bnd fb fun y => bnd (lif (g x y)) fun k => match k with
  | .bool true => bnd fc fun z => lif (g' y z)
  | .bool false => ret (.bool false)
  | _ => lif none

/-! ### arguments, displays -/
def nilA : EM (List D) := ret []
def consA (f : EM D) (g : EM (List D)) : EM (List D) := bnd f fun d => bnd g fun ds => ret (d :: ds)
variable {es : List Expr} {fs : EM (List D)}
theorem da_nil : DA X W bv [] nilA := pa_imp pa_nil fun σ H Q ⟨e, F, fp, S, q⟩ => AtG.here (r := rL X.K) S q .nil
theorem da_cons (h : DE X W bv a fa) (hr : DA X W bv es fs) (hs : starEach (a :: es) X.env = (false, eval a X.env) :: starEach es X.env := by rfl) : DA X W bv (a :: es) (consA fa fs) :=
  pa_imp (pa_cons h hr hs) fun σ H Q t => by
    refine tG.mono (tG.bnd (r := rD X.K) t) fun x H1 ⟨d, e1, F1, fp1, S1, r1, q1⟩ => ?_
    refine tG.mono (AtG.bnd' (r := rL X.K) S1 q1) fun xs H2 ⟨ds, e2, F2, fp2, s2, S2, r2, q2⟩ => ?_
    exact AtG.here (r := rL X.K) S2 q2 (.cons (Rp.mono s2 r1) r2)
/-- as long as a thing may be -/
def few (n : Nat) : Bool := decide (n ≤ 1000000)
theorem few_le {n : Nat} (h : few n = true) : n ≤ sizeLine := Nat.le_trans (of_decide_eq_true h) (by decide)
def tupE (fs : EM (List D)) : EM D := bnd fs fun ds => lif (if few ds.length then some (.tuple ds) else none)
def lstE (fs : EM (List D)) : EM D := bnd fs fun ds => lif (if few ds.length then some (.list ds) else none)
theorem de_tup {k} (h : DA X W bv es fs) : DE X W bv (.Tuple es k pos) (tupE fs) :=
  pe_imp (pe_tup h) fun σ H Q t => by
    refine tG.mono (tG.bnd (r := rL X.K) t) fun xs H1 ⟨ds, e1, F1, fp1, S1, r1, q1⟩ => ?_
    obtain ⟨d, hd, q⟩ := q1.lif
    split at hd
    · rename_i hz
      cases hd
      refine ⟨by rw [RpL.length r1]; exact few_le hz, fun p hp => ?_⟩
      exact AtG.made (r := rD X.K) S1 q hp (.tup upd_same (RpL.mono (Sub.new (S1.sub.non hp)) r1))
    · cases hd
theorem de_lst (h : DA X W bv es fs) : DE X W bv (.List es pos) (lstE fs) :=
  pe_imp (pe_lst h) fun σ H Q t => by
    refine tG.mono (tG.bnd (r := rL X.K) t) fun xs H1 ⟨ds, e1, F1, fp1, S1, r1, q1⟩ => ?_
    obtain ⟨d, hd, q⟩ := q1.lif
    split at hd
    · rename_i hz
      cases hd
      refine ⟨by rw [RpL.length r1]; exact few_le hz, fun p hp => ?_⟩
      exact AtG.made (r := rD X.K) S1 q hp (.lst (.inl (.inl upd_same)) (RpL.mono (Sub.new (S1.sub.non hp)) r1))
    · cases hd
end

/-! ### operations on data -/
section
variable {K : PySem.W.Frag} {X : Cx}
/-- a rule on flat results: what is told is flat -/
theorem at_flat {W : WX} {bv : Nat → Option V} {e : Env} {σ : St} {F H : Hp} {fp : Nat → List Addr} {d : D} {o : Option D} {Q : VK} (S : SS K bv e σ F H fp) (h : AtG K W bv (smp (rD K)) (lif o) e σ F H fp Q) (ho : o = some d) (hf : flatD d = true) : Q (flatOf d) H := by
  subst ho
  exact AtG.here (r := rD K) S h (Rp.flat hf)
def intOp (C : Int → Int → Bool) (g : Int → Int → Int) : D → D → Option D
  | .int i, .int j => if C i j then some (.int (g i j)) else none
  | _, _ => none
theorem opv_int {C : Int → Int → Bool} {g : Int → Int → Int} {P : Int → Int → Prop} (h : ∀ i j, C i j = true → P i j) : OpV K (rI P fun i j => .int (g i j)) (intOp C g) := by
  intro W bv e σ F H fp x y d1 d2 Q S r1 r2 q
  cases r1 <;> cases r2 <;> first | exact q.elim | skip
  rename_i i j
  by_cases c : C i j = true
  · exact ⟨i, j, rfl, rfl, h i j c, at_flat (d := .int (g i j)) S q (by simp only [intOp]; rw [if_pos c]) rfl⟩
  · simp only [intOp] at q
    rw [if_neg c] at q
    exact q.elim
def allI : Int → Int → Bool := fun _ _ => true
theorem opv_int0 {g : Int → Int → Int} : OpV K (rI0 fun i j => .int (g i j)) (intOp allI g) := by
  intro W bv e σ F H fp x y d1 d2 Q S r1 r2 q
  cases r1 <;> cases r2 <;> first | exact q.elim | skip
  rename_i i j
  exact ⟨i, j, rfl, rfl, at_flat S q rfl rfl⟩
def intCmp (g : Int → Int → Bool) : D → D → Option D
  | .int i, .int j => some (.bool (g i j))
  | _, _ => none
theorem opv_cmp {g : Int → Int → Bool} : OpV K (rI0 fun i j => .bl (g i j)) (intCmp g) := by
  intro W bv e σ F H fp x y d1 d2 Q S r1 r2 q
  cases r1 <;> cases r2 <;> first | exact q.elim | skip
  rename_i i j
  exact ⟨i, j, rfl, rfl, at_flat S q rfl rfl⟩
def subD : D → D → Option D := intOp allI (· - ·)
def modD : D → D → Option D := intOp (fun _ j => decide (0 < j)) (· % ·)
def fdvD : D → D → Option D := intOp (fun _ j => decide (0 < j) && decide (j < 1073741824)) (· / ·)
def powD : D → D → Option D := intOp (fun i j => decide (0 ≤ j) && decide (j ≤ 1000) && decide (i.natAbs < 2 ^ 64)) (fun i j => i ^ j.toNat)
def ltI : D → D → Option D := intCmp fun i j => decide (i < j)
def leI : D → D → Option D := intCmp fun i j => decide (i ≤ j)
def gtI : D → D → Option D := intCmp fun i j => decide (j < i)
def geI : D → D → Option D := intCmp fun i j => decide (j ≤ i)
theorem od_sub : OpD X (binaryOp .Sub) subD := ⟨_, op_sub, opv_int0⟩
theorem od_mod : OpD X (binaryOp .Mod) modD := ⟨_, op_mod, opv_int fun _ _ h => of_decide_eq_true h⟩
theorem od_fdv : OpD X (binaryOp .FloorDiv) fdvD := ⟨_, op_fdiv, opv_int fun _ _ h => by simpa [CDiv] using h⟩
theorem od_pow : OpD X (binaryOp .Pow) powD := ⟨_, op_pow, opv_int fun i j h => by
  simp only [Bool.and_eq_true, decide_eq_true_eq] at h
  exact ⟨h.1.1, by omega, h.2⟩⟩
theorem od_lt : OpD X (compareOp .Lt) ltI := ⟨_, op_lt, opv_cmp⟩
theorem od_le : OpD X (compareOp .LtE) leI := ⟨_, op_le, opv_cmp⟩
theorem od_gt : OpD X (compareOp .Gt) gtI := ⟨_, op_gt, opv_cmp⟩
theorem od_ge : OpD X (compareOp .GtE) geI := ⟨_, op_ge, opv_cmp⟩
end
end FD

/-! FD: == and in, + and *, is, subscripts, slices, chains. -/
namespace FD
open PySem L2
section
variable {K : PySem.W.Frag} {X : Cx} {W : WX} {bv : Nat → Option V} {pos : Pos} {a b c : Expr} {fa fb fc : EM D}
/-! ### data without dicts -/
mutual
theorem Rp.dp {F H : Hp} (s : Sub F H) : ∀ {v : V} {d : D}, d.canLay0 = true → Rp K F v d → Dp K H v d
  | _, _, _, .non => .non
  | _, _, _, .bl b => .bl b
  | _, _, _, .int i => .int i
  | _, _, _, .str x => .str x
  | _, _, h, .lst q r => .lst (s.l q) (RpL.dp s (by simpa [PyData.canLay0] using h) r)
  | _, _, h, .tup q r => .tup (s.t q) (RpL.dp s (by simpa [PyData.canLay0] using h) r)
  | _, _, h, .dK _ _ _ => by simp [PyData.canLay0] at h
  | _, _, h, .dT _ _ _ => by simp [PyData.canLay0] at h
theorem RpL.dp {F H : Hp} (s : Sub F H) : ∀ {vs : List V} {ds : List D}, PyData.canLayAll0 ds = true → RpL K F vs ds → DpAll K H vs ds
  | _, _, _, .nil => .nil
  | _, _, h, .cons q r => by
    simp only [PyData.canLayAll0, Bool.and_eq_true] at h
    exact .cons (Rp.dp s h.1 q) (RpL.dp s h.2 r)
end
theorem lay_of {d : D} (h : SeqAt.shaped d = true) : d.canLay0 = true := SeqAt.canLay_of_shaped h

/-! ### == -/
def scalD (d1 d2 : D) : Bool := flatD d1 && flatD d2 && scal (flatOf d1) (flatOf d2)
def eqOk (d1 d2 : D) : Bool := scalD d1 d2 || (SeqAt.shaped d1 && SeqAt.shaped d2)
def eqD (d1 d2 : D) : Option D := if eqOk d1 d2 then some (.bool (PyData.eqv d1 d2)) else none
def neD (d1 d2 : D) : Option D := if eqOk d1 d2 then some (.bool (!PyData.eqv d1 d2)) else none
theorem scal_eqv : ∀ {d1 d2 : D}, scalD d1 d2 = true → decide (flatOf d1 = flatOf d2) = PyData.eqv d1 d2 := by
  intro d1 d2 h
  cases d1 <;> cases d2 <;> first | (simp [scalD, flatD] at h; done) | (simp [scalD, flatD, flatOf, scal] at h; done) | (simp [flatOf, PyData.eqv]; done) | skip
  · rename_i a b
    cases a <;> cases b <;> simp [flatOf, PyData.eqv]
  · rename_i a b
    simp only [flatOf, PyData.eqv, V.int.injEq]
    exact (Bool.beq_eq_decide_eq a b).symm
  · rename_i a b
    simp only [flatOf, PyData.eqv, V.str.injEq]
    exact (Bool.beq_eq_decide_eq a b).symm
theorem opv_eq : OpV K (fun x y H Q => rEq x y H Q ∨ rEqD K x y H Q) eqD := by
  intro W bv e σ F H fp x y d1 d2 Q S r1 r2 q
  unfold eqD eqOk at q
  by_cases h1 : scalD d1 d2 = true
  · rw [h1, Bool.true_or, if_pos rfl] at q
    have z := scal_eqv h1
    simp only [scalD, Bool.and_eq_true] at h1
    refine .inl ?_
    rw [r1.flat_eq h1.1.1, r2.flat_eq h1.1.2]
    refine ⟨h1.2, ?_⟩
    rw [z]
    exact AtG.here (r := rD K) S q (.bl _)
  · rw [Bool.not_eq_true] at h1
    rw [h1, Bool.false_or] at q
    by_cases h2 : (SeqAt.shaped d1 && SeqAt.shaped d2) = true
    · rw [if_pos h2] at q
      rw [Bool.and_eq_true] at h2
      exact .inr ⟨d1, d2, r1.dp S.sub (lay_of h2.1), r2.dp S.sub (lay_of h2.2), h2.1, h2.2, AtG.here (r := rD K) S q (.bl _)⟩
    · rw [if_neg h2] at q
      exact q.elim
theorem opv_ne : OpV K (fun x y H Q => rNe x y H Q ∨ rNeD K x y H Q) neD := by
  intro W bv e σ F H fp x y d1 d2 Q S r1 r2 q
  unfold neD eqOk at q
  by_cases h1 : scalD d1 d2 = true
  · rw [h1, Bool.true_or, if_pos rfl] at q
    have z := scal_eqv h1
    simp only [scalD, Bool.and_eq_true] at h1
    refine .inl ?_
    rw [r1.flat_eq h1.1.1, r2.flat_eq h1.1.2]
    refine ⟨h1.2, ?_⟩
    rw [z]
    exact AtG.here (r := rD K) S q (.bl _)
  · rw [Bool.not_eq_true] at h1
    rw [h1, Bool.false_or] at q
    by_cases h2 : (SeqAt.shaped d1 && SeqAt.shaped d2) = true
    · rw [if_pos h2] at q
      rw [Bool.and_eq_true] at h2
      exact .inr ⟨d1, d2, r1.dp S.sub (lay_of h2.1), r2.dp S.sub (lay_of h2.2), h2.1, h2.2, AtG.here (r := rD K) S q (.bl _)⟩
    · rw [if_neg h2] at q
      exact q.elim
theorem od_eq {k : Nat} (hr : Room k X.A) : OpD X (compareOp .Eq) eqD := ⟨_, OpR.or op_eq (op_eqD hr.units), opv_eq⟩
theorem od_ne {k : Nat} (hr : Room k X.A) : OpD X (compareOp .NotEq) neD := ⟨_, OpR.or op_ne (op_neD hr.units), opv_ne⟩

/-! ### is None, is True -/
def isD : D → D → Option D
  | d, .none => some (.bool (match d with | .none => true | _ => false))
  | .bool a, .bool b => some (.bool (decide (a = b)))
  | _, _ => none
def isnD : D → D → Option D
  | d, .none => some (.bool (match d with | .none => false | _ => true))
  | .bool a, .bool b => some (.bool (!decide (a = b)))
  | _, _ => none
theorem od_is : OpD X (compareOp .Is) isD := by
  refine ⟨_, OpR.or op_isN op_isBl, ?_⟩
  intro W bv e σ F H fp x y d1 d2 Q S r1 r2 q
  cases r2 with
  | non =>
    refine .inl ⟨rfl, ?_⟩
    cases r1 <;> exact AtG.here (r := rD X.K) S q (.bl _)
  | bl b =>
    cases r1 with
    | bl a => exact .inr ⟨a, b, rfl, rfl, AtG.here (r := rD X.K) S q (.bl _)⟩
    | _ => exact q.elim
  | _ => cases r1 <;> exact q.elim
theorem od_isn : OpD X (compareOp .IsNot) isnD := by
  refine ⟨_, OpR.or op_notN op_notBl, ?_⟩
  intro W bv e σ F H fp x y d1 d2 Q S r1 r2 q
  cases r2 with
  | non =>
    refine .inl ⟨rfl, ?_⟩
    cases r1 <;> exact AtG.here (r := rD X.K) S q (.bl _)
  | bl b =>
    cases r1 with
    | bl a => exact .inr ⟨a, b, rfl, rfl, AtG.here (r := rD X.K) S q (.bl _)⟩
    | _ => exact q.elim
  | _ => cases r1 <;> exact q.elim

/-! ### in -/
def flatAll (ds : List D) : Bool := ds.all flatD
theorem RpL.flat_eq {F : Hp} : ∀ {vs : List V} {ds : List D}, flatAll ds = true → RpL K F vs ds → vs = ds.map flatOf
  | _, _, _, .nil => rfl
  | _, _, h, .cons q r => by
    simp only [flatAll, List.all_cons, Bool.and_eq_true] at h
    rw [List.map_cons, q.flat_eq h.1, RpL.flat_eq h.2 r]
theorem flat_flatV : ∀ {d : D}, flatD d = true → flatV (flatOf d) = true := by
  intro d h
  cases d <;> first | rfl | cases h
theorem flat_eqV : ∀ {d1 d2 : D}, flatD d1 = true → flatD d2 = true → eqV (flatOf d1) (flatOf d2) = PyData.eqv d1 d2 := by
  intro d1 d2 h1 h2
  cases d1 <;> first | (cases h1; done) | (cases d2 <;> first | (cases h2; done) | simp [flatOf, eqV, PyData.eqv])
theorem flat_inV {d : D} : ∀ {ds : List D}, flatD d = true → flatAll ds = true → inV (flatOf d) (ds.map flatOf) = ds.any (fun z => PyData.eqv z d)
  | [], _, _ => rfl
  | x :: ds, h, hs => by
    simp only [flatAll, List.all_cons, Bool.and_eq_true] at hs
    have ih := flat_inV (ds := ds) h hs.2
    unfold inV at ih ⊢
    rw [List.map_cons, List.any_cons, List.any_cons, ih, flat_eqV hs.1 h]
/-- whether one is among some -/
def memD (d : D) (ds : List D) : Bool := ds.any fun z => PyData.eqv z d
def inOk (d : D) (ds : List D) : Bool := (flatD d && flatAll ds) || (SeqAt.shaped d && SeqAt.shaped (.list ds))
def inTOk (d : D) (ds : List D) : Bool := flatD d && flatAll ds
/-- a text in a text -/
def subS (x y : Str) : Bool := !(Builtin.Str.occurrences y x 0 y.length 1).isEmpty
def inB (d : D) : D → Option Bool
  | .list ds => if inOk d ds then some (memD d ds) else none
  | .tuple ds => if inTOk d ds then some (memD d ds) else none
  | .str y => match d with
    | .str x => some (subS x y)
    | _ => none
  | _ => none
def inD (d1 d2 : D) : Option D := (inB d1 d2).map .bool
def ninD (d1 d2 : D) : Option D := (inB d1 d2).map fun k => .bool (!k)
theorem all_flatV : ∀ {ds : List D}, flatAll ds = true → (ds.map flatOf).all flatV = true
  | [], _ => rfl
  | x :: ds, h => by
    simp only [flatAll, List.all_cons, Bool.and_eq_true] at h
    rw [List.map_cons, List.all_cons, flat_flatV h.1, all_flatV h.2]
    rfl
theorem od_in {k : Nat} (hr : Room k X.A) : OpD X (compareOp .In) inD := by
  have hu : X.A.units + 65 < cLine := by have := hr.un; omega
  refine ⟨_, OpR.or op_in_seq (OpR.or (op_inD hu) op_in_str), ?_⟩
  intro W bv e σ F H fp x y d1 d2 Q S r1 r2 q
  obtain ⟨d, hd, q⟩ := q.lif
  obtain ⟨k, hk, rfl⟩ := Option.map_eq_some_iff.mp hd
  cases r2 with
  | lst h r =>
    rename_i p vs ds
    simp only [inB] at hk
    split at hk
    · rename_i z
      cases hk
      unfold inOk at z
      by_cases z1 : (flatD d1 && flatAll ds) = true
      · rw [Bool.and_eq_true] at z1
        rw [r1.flat_eq z1.1]
        have e1 := r.flat_eq z1.2
        subst e1
        refine .inl ⟨p, _, rfl, .inl (S.sub.l h), flat_flatV z1.1, all_flatV z1.2, ?_⟩
        rw [if_neg Bool.false_ne_true, flat_inV z1.1 z1.2]
        exact AtG.here (r := rD X.K) S q (.bl _)
      · rw [Bool.not_eq_true] at z1
        rw [z1, Bool.false_or, Bool.and_eq_true] at z
        have r2' : Rp X.K F (.ref p) (.list ds) := .lst h r
        exact .inr (.inl ⟨d1, ds, r1.dp S.sub (lay_of z.1), r2'.dp S.sub (lay_of z.2), z.1, z.2, AtG.here (r := rD X.K) S q (.bl _)⟩)
    · cases hk
  | tup h r =>
    rename_i p vs ds
    simp only [inB] at hk
    split at hk
    · rename_i z1
      cases hk
      unfold inTOk at z1
      rw [Bool.and_eq_true] at z1
      rw [r1.flat_eq z1.1]
      have e1 := r.flat_eq z1.2
      subst e1
      refine .inl ⟨p, _, rfl, .inr (S.sub.t h), flat_flatV z1.1, all_flatV z1.2, ?_⟩
      rw [if_neg Bool.false_ne_true, flat_inV z1.1 z1.2]
      exact AtG.here (r := rD X.K) S q (.bl _)
    · cases hk
  | str y =>
    cases r1 with
    | str x =>
      cases hk
      exact .inr (.inr ⟨x, y, rfl, rfl, AtG.here (r := rD X.K) S q (.bl _)⟩)
    | _ => cases hk
  | _ => cases hk
theorem od_nin {k : Nat} (hr : Room k X.A) : OpD X (compareOp .NotIn) ninD := by
  have hu : X.A.units + 65 < cLine := by have := hr.un; omega
  refine ⟨_, OpR.or op_notIn_seq (OpR.or (op_notInD hu) op_notin_str), ?_⟩
  intro W bv e σ F H fp x y d1 d2 Q S r1 r2 q
  obtain ⟨d, hd, q⟩ := q.lif
  obtain ⟨k, hk, rfl⟩ := Option.map_eq_some_iff.mp hd
  cases r2 with
  | lst h r =>
    rename_i p vs ds
    simp only [inB] at hk
    split at hk
    · rename_i z
      cases hk
      unfold inOk at z
      by_cases z1 : (flatD d1 && flatAll ds) = true
      · rw [Bool.and_eq_true] at z1
        rw [r1.flat_eq z1.1]
        have e1 := r.flat_eq z1.2
        subst e1
        refine .inl ⟨p, _, rfl, .inl (S.sub.l h), flat_flatV z1.1, all_flatV z1.2, ?_⟩
        rw [if_pos rfl, flat_inV z1.1 z1.2]
        exact AtG.here (r := rD X.K) S q (.bl _)
      · rw [Bool.not_eq_true] at z1
        rw [z1, Bool.false_or, Bool.and_eq_true] at z
        have r2' : Rp X.K F (.ref p) (.list ds) := .lst h r
        exact .inr (.inl ⟨d1, ds, r1.dp S.sub (lay_of z.1), r2'.dp S.sub (lay_of z.2), z.1, z.2, AtG.here (r := rD X.K) S q (.bl _)⟩)
    · cases hk
  | tup h r =>
    rename_i p vs ds
    simp only [inB] at hk
    split at hk
    · rename_i z1
      cases hk
      unfold inTOk at z1
      rw [Bool.and_eq_true] at z1
      rw [r1.flat_eq z1.1]
      have e1 := r.flat_eq z1.2
      subst e1
      refine .inl ⟨p, _, rfl, .inr (S.sub.t h), flat_flatV z1.1, all_flatV z1.2, ?_⟩
      rw [if_pos rfl, flat_inV z1.1 z1.2]
      exact AtG.here (r := rD X.K) S q (.bl _)
    · cases hk
  | str y =>
    cases r1 with
    | str x =>
      cases hk
      exact .inr (.inr ⟨x, y, rfl, rfl, AtG.here (r := rD X.K) S q (.bl _)⟩)
    | _ => cases hk
  | _ => cases hk

/-! ### + -/
def rCatL (K : PySem.W.Frag) : R2 := fun x y H Q => ∃ l b xs zs, x = .ref l ∧ y = .ref b ∧ SqL K H l xs ∧ SqL K H b zs ∧ xs.length + zs.length ≤ sizeLine ∧ ∀ p, H p = none → Q (.ref p) (upd H p (.lst (xs ++ zs)))
theorem op_catL : OpR X (binaryOp .Add) (rCatL X.K) := by
  intro pins s σ H x y v u Q I rx ry h
  obtain ⟨l, b, xs, zs, rfl, rfl, hH, hB, hz, q⟩ := h
  cases rx
  cases ry
  obtain ⟨its, r, ⟨⟨c1, dd, da, sl⟩, n, ho, hc, _, hd⟩, _⟩ := I.list hH
  obtain ⟨its2, r2, ⟨⟨c2, dd2, da2, sl2⟩, n2, ho2, hc2, _, hd2⟩, _⟩ := I.list hB
  simp only at hc hd hc2 hd2
  subst hc hd hc2 hd2
  have hl := r.length
  have hl2 := r2.length
  refine concat_meets ⟨_, ho, rfl⟩ ⟨_, ho2, rfl⟩ noFill_list_add seq_list_add PySem.F.slot_list_add PySem.F.entry_list_add (PySem.F.args_list_add_2 _ _)
    (PyProof.Rows.list_addW l b its.toArray its2.toArray n n2 dd dd2 sl sl2 (by rw [List.size_toArray, List.size_toArray]; omega)) ⟨ho, ho2, ?_⟩
  have ea : its.toArray ++ its2.toArray = (its ++ its2).toArray := by simp
  rw [ea]
  exact ⟨.ref _, _, I.lnew (t' := s.toks) (r.append r2) (by rw [List.length_append]; omega), rfl, q _ I.fresh⟩
def addD : D → D → Option D
  | .int i, .int j => some (.int (i + j))
  | .str x, .str y => if few (x.length + y.length) then some (.str (x ++ y)) else none
  | .list xs, .list ys => if few (xs.length + ys.length) then some (.list (xs ++ ys)) else none
  | .tuple xs, .tuple ys => if few (xs.length + ys.length) then some (.tuple (xs ++ ys)) else none
  | _, _ => none
theorem od_add : OpD X (binaryOp .Add) addD := by
  refine ⟨_, OpR.or op_add (OpR.or op_add_str (OpR.or op_catL op_catA)), ?_⟩
  intro W bv e σ F H fp x y d1 d2 Q S r1 r2 q
  cases r1 <;> cases r2 <;> first | exact q.elim | skip
  · exact .inl ⟨_, _, rfl, rfl, AtG.here (r := rD X.K) S q (.int _)⟩
  · simp only [addD] at q
    split at q
    · rename_i z
      exact .inr (.inl ⟨_, _, rfl, rfl, few_le z, AtG.here (r := rD X.K) S q (.str _)⟩)
    · exact q.elim
  · rename_i a1 vs1 ds1 h1 g1 a2 vs2 ds2 h2 g2
    simp only [addD] at q
    split at q
    · rename_i z
      refine .inr (.inr (.inl ⟨_, _, _, _, rfl, rfl, S.sub.l h1, S.sub.l h2, by rw [g1.length, g2.length]; exact few_le z, fun p hp => ?_⟩))
      exact AtG.made (r := rD X.K) S q hp (.lst (.inl (.inl upd_same)) (RpL.mono (Sub.new (S.sub.non hp)) (g1.append g2)))
    · exact q.elim
  · rename_i a1 vs1 ds1 h1 g1 a2 vs2 ds2 h2 g2
    simp only [addD] at q
    split at q
    · rename_i z
      refine .inr (.inr (.inr ⟨_, _, _, _, rfl, rfl, S.sub.t h1, S.sub.t h2, by rw [g1.length, g2.length]; exact few_le z, fun e1 => ?_, fun _ e2 => ?_, fun _ _ p hp => ?_⟩))
      · subst e1
        cases g1
        exact AtG.here (r := rD X.K) S q (.tup h2 (by simpa using g2))
      · subst e2
        cases g2
        exact AtG.here (r := rD X.K) S q (.tup h1 (by simpa using g1))
      · exact AtG.made (r := rD X.K) S q hp (.tup upd_same (RpL.mono (Sub.new (S.sub.non hp)) (g1.append g2)))
    · exact q.elim
/-! ### int * int -/
def mulI : D → D → Option D := intOp (fun i j => (decide (-(2 ^ 64) < i) && decide (i < 2 ^ 64)) || (decide (-(2 ^ 64) < j) && decide (j < 2 ^ 64))) (· * ·)
theorem od_mulI : OpD X (binaryOp .Mult) mulI := ⟨_, op_mul, opv_int fun i j h => by
  simp only [Bool.or_eq_true, Bool.and_eq_true, decide_eq_true_eq] at h
  exact h⟩
/-! ### -x -/
def negD : D → Option D
  | .int i => some (.int (-i))
  | _ => none
theorem de_neg (ha : DE X W bv a fa) : DE X W bv (.UnaryOp .USub a pos) (un negD fa) :=
  pe_imp (pe_un un_neg ha) fun σ H Q t => by
    refine tG.mono (tG.bnd (r := rD X.K) t) fun x H1 ⟨d, e1, F1, fp1, S1, r1, q1⟩ => ?_
    cases r1 with
    | int i => exact ⟨i, rfl, AtG.here (r := rD X.K) S1 q1 (.int _)⟩
    | _ => exact q1.elim
/-! ### chains -/
theorem tChain_of {K : PySem.W.Frag} {σ : L2.St} {H : Hp} {r r' : R2} {g g' : D → D → Option D} {Q : VK} (h : OpV K r g) (h' : OpV K r' g') (hg : ∀ x y d, g x y = some d → ∃ k, d = .bool k)
    (t : tE K W bv (chn g g' fa fb fc) σ H Q) : tChain r r' (tE K W bv fa) (tE K W bv fb) (tE K W bv fc) σ H Q := by
  refine tG.mono (tG.bnd (r := rD K) t) fun x H1 ⟨d1, e1, F1, fp1, S1, r1, q1⟩ => ?_
  refine tG.mono (AtG.bnd' (r := rD K) S1 q1) fun y H2 ⟨d2, e2, F2, fp2, s2, S2, r2, q2⟩ => ?_
  refine h W bv e2 σ F2 H2 fp2 x y d1 d2 _ S2 (r1.mono s2) r2 ?_
  cases z : g d1 d2 with
  | none => rw [z] at q2; exact q2.elim
  | some d =>
    obtain ⟨k, rfl⟩ := hg _ _ _ z
    rw [z] at q2
    intro v F3 H3 fp3 P3 s3 S3 r3
    obtain ⟨rfl, r3⟩ := r3
    cases r3
    refine ⟨k, rfl, ?_⟩
    cases k with
    | true =>
      have q3 : AtG K W bv (smp (rD K)) (bnd fc fun z => lif (g' d2 z)) e2 σ F2 H2 fp2 Q := q2
      rw [if_pos rfl]
      refine tG.mono (AtG.bnd' (r := rD K) S3 (AtG.back s3 q3)) fun w H4 ⟨d4, e4, F4, fp4, s4, S4, r4, q4⟩ => ?_
      exact h' W bv e4 σ F4 H4 fp4 y w d2 d4 Q S4 ((r2.mono s3.ext).mono s4) r4 q4
    | false =>
      have q3 : AtG K W bv (smp (rD K)) (ret (.bool false)) e2 σ F2 H2 fp2 Q := q2
      rw [if_neg Bool.false_ne_true]
      exact AtG.here (r := rD K) S3 (AtG.back s3 q3) (.bl _)
theorem de_chain {op op' : CmpOp} {g g' : Int → Int → Bool} (ho : OpD X (compareOp op) (intCmp g)) (ho' : OpD X (compareOp op') (intCmp g')) (ha : DE X W bv a fa) (hb : DE X W bv b fb) (hc : DE X W bv c fc)
    (hm : lastMarks [op, op'] [b, c] = false := by with_unfolding_all rfl) : DE X W bv (.Compare a [op, op'] [b, c] pos) (chn (intCmp g) (intCmp g') fa fb fc) := by
  obtain ⟨r, hr, h⟩ := ho
  obtain ⟨r', hr', h'⟩ := ho'
  refine pe_imp (pe_chain hr hr' ha hb hc hm) fun σ H Q t => tChain_of h h' (fun x y d z => ?_) t
  unfold intCmp at z
  split at z
  · cases z; exact ⟨_, rfl⟩
  · cases z
theorem dt_chain {op op' : CmpOp} {g g' : Int → Int → Bool} (ho : OpD X (compareOp op) (intCmp g)) (ho' : OpD X (compareOp op') (intCmp g')) (ha : DE X W bv a fa) (hb : DE X W bv b fb) (hc : DE X W bv c fc)
    (hm : lastMarks [op, op'] [b, c] = false := by with_unfolding_all rfl) : DT X W bv (.Compare a [op, op'] [b, c] pos) (tst (chn (intCmp g) (intCmp g') fa fb fc)) := by
  obtain ⟨r, hr, h⟩ := ho
  obtain ⟨r', hr', h'⟩ := ho'
  refine pt_imp (pt_chain hr hr' ha hb hc hm) fun σ H Q t => tChain_of h h' (fun x y d z => ?_) (tst_of t)
  unfold intCmp at z
  split at z
  · cases z; exact ⟨_, rfl⟩
  · cases z
/-! ### x[i] -/
def ixD : D → D → Option D
  | .list ds, .int i => atI ds i
  | .tuple ds, .int i => atI ds i
  | .str z, .int i => if few z.length then (atI z.cps.toList i).map fun c => .str ⟨#[c]⟩ else none
  | _, _ => none
theorem RpL.atI {F : Hp} {vs : List V} {ds : List D} {i : Int} {d : D} (r : RpL K F vs ds) (h : L2.atI ds i = some d) : ∃ v, L2.atI vs i = some v ∧ Rp K F v d := by
  unfold L2.atI at h ⊢
  rw [r.length]
  cases q : ixN ds.length i with
  | none => rw [q] at h; cases h
  | some j =>
    rw [q] at h
    obtain ⟨v, h1, h2⟩ := r.get (i := j) (d := d) h
    exact ⟨v, h1, h2⟩
theorem opv_ix : OpV K (rIx K) ixD := by
  intro W bv e σ F H fp x y d1 d2 Q S r1 r2 q
  obtain ⟨d, hd, q'⟩ := q.lif
  clear q
  cases r1 <;> cases r2 <;> first | (cases hd; done) | skip
  · rename_i z i
    simp only [ixD] at hd
    split at hd
    · rename_i z1
      obtain ⟨c, hc, rfl⟩ := Option.map_eq_some_iff.mp hd
      exact .inr (.inr ⟨z, i, c, rfl, rfl, few_le z1, hc, AtG.here (r := rD K) S q' (.str _)⟩)
    · cases hd
  · rename_i a vs ds h r i
    obtain ⟨v, h1, h2⟩ := r.atI hd
    exact .inl ⟨_, _, _, _, rfl, rfl, S.sub.l h, h1, AtG.here (r := rD K) S q' h2⟩
  · rename_i a vs ds h r i
    obtain ⟨v, h1, h2⟩ := r.atI hd
    exact .inr (.inl ⟨_, _, _, _, rfl, rfl, S.sub.t h, h1, AtG.here (r := rD K) S q' h2⟩)
theorem de_ix (ha : DE X W bv a fa) (hb : DE X W bv b fb) (hs : PlainIx b := by exact fun _ _ => rfl) : DE X W bv (.Subscript a b pos) (bin ixD fa fb) :=
  pe_imp (pe_ix ix_seq ha hb hs) fun σ H Q t => tOp_of opv_ix t
/-! ### x[i:j] -/
abbrev DO (X : Cx) (W : WX) (bv : Nat → Option V) (e : Option Expr) (f : EM (Option Int)) : Prop := PO X e (tG X.K W bv (smp fun _ (x : Option Int) a => x = a) f)
def intE (f : EM D) : EM (Option Int) := bnd f fun d => match d with
  | .int i => ret (some i)
  | _ => lif none
theorem po_imp {X : Cx} {e : Option Expr} {t t' : TO} (h : PO X e t) (w : ∀ σ H Q, t' σ H Q → t σ H Q) : PO X e t' := ⟨fun pins s σ H Q I q => h.run pins s σ H Q I (w σ H Q q)⟩
theorem do_none : DO X W bv none (ret none) := po_imp po_none fun σ H Q ⟨e, F, fp, S, q⟩ => AtG.here (r := fun _ x a => x = a) S q rfl
theorem do_some (ha : DE X W bv a fa) : DO X W bv (some a) (intE fa) := po_imp (po_some ha) fun σ H Q t => by
  refine tG.mono (tG.bnd (r := rD X.K) t) fun x H1 ⟨d, e1, F1, fp1, S1, r1, q1⟩ => ?_
  cases r1 with
  | int i => exact ⟨i, rfl, AtG.here (r := fun _ x a => x = a) S1 q1 rfl⟩
  | _ => exact q1.elim
def cutD {α : Type} (xs : List α) (lo hi : Option Int) : List α := (xs.drop (HT.sIx xs.length 0 lo)).take (HT.sIx xs.length xs.length hi - HT.sIx xs.length 0 lo)
theorem RpL.cut {F : Hp} {vs : List V} {ds : List D} {lo hi : Option Int} (r : RpL K F vs ds) : RpL K F (cutV vs lo hi) (cutD ds lo hi) := by
  unfold cutV cutD
  rw [r.length]
  exact (r.drop _).take _
def slD (d : D) (lo hi : Option Int) : Option D := match d with
  | .list ds => some (.list (cutD ds lo hi))
  | .tuple ds => some (.tuple (cutD ds lo hi))
  | .str z => if few z.length then some (.str (cutS z lo hi)) else none
  | _ => none
def slE (fa : EM D) (fl fh : EM (Option Int)) : EM D := bnd fa fun d => bnd fl fun lo => bnd fh fun hi => lif (slD d lo hi)
theorem cut_whole {α : Type} {xs : List α} {lo hi : Option Int} (h : HT.sIx xs.length 0 lo = 0 ∧ HT.sIx xs.length xs.length hi = xs.length) : cutD xs lo hi = xs := by
  unfold cutD
  rw [h.1, h.2]
  simp
theorem de_sl {lo hi : Option Expr} {fl fh : EM (Option Int)} {p2 : Pos} (ha : DE X W bv a fa) (hl : DO X W bv lo fl) (hh : DO X W bv hi fh) : DE X W bv (.Subscript a (.Slice lo hi none p2) pos) (slE fa fl fh) :=
  pe_imp (pe_slice (SlR.or sl_list (SlR.or sl_tupA sl_str)) ha hl hh) fun σ H Q t => by
    refine tG.mono (tG.bnd (r := rD X.K) t) fun x H1 ⟨d, e1, F1, fp1, S1, r1, q1⟩ => ?_
    refine tG.mono (AtG.bnd' (r := fun _ (x : Option Int) a => x = a) S1 q1) fun l H2 ⟨l', e2, F2, fp2, s2, S2, hl2, q2⟩ => ?_
    subst hl2
    refine tG.mono (AtG.bnd' (r := fun _ (x : Option Int) a => x = a) S2 q2) fun u H3 ⟨u', e3, F3, fp3, s3, S3, hu3, q3⟩ => ?_
    subst hu3
    have r3 := (Rp.mono s2 r1).mono s3
    obtain ⟨d', hd, q⟩ := q3.lif
    cases r3 with
    | lst h r =>
      cases hd
      refine .inl ⟨_, _, rfl, S3.sub.l h, fun p hp => ?_⟩
      exact AtG.made (r := rD X.K) S3 q hp (.lst (.inl (.inl upd_same)) (RpL.mono (Sub.new (S3.sub.non hp)) r.cut))
    | tup h r =>
      cases hd
      refine .inr (.inl ⟨_, _, rfl, S3.sub.t h, fun hw => ?_, fun _ p hp => ?_⟩)
      · rw [r.length] at hw
        rw [cut_whole hw] at q
        exact AtG.here (r := rD X.K) S3 q (.tup h r)
      · exact AtG.made (r := rD X.K) S3 q hp (.tup upd_same (RpL.mono (Sub.new (S3.sub.non hp)) r.cut))
    | str z =>
      simp only [slD] at hd
      split at hd
      · rename_i z1
        cases hd
        exact .inr (.inr ⟨z, rfl, few_le z1, AtG.here (r := rD X.K) S3 q (.str _)⟩)
      · cases hd
    | _ => cases hd
end
end FD

/-! FD: statements, loops. -/
namespace FD
open PySem L2
section
variable {K : PySem.W.Frag} {W : WX} {bv : Nat → Option V} {e : Env} {σ : L2.St} {F H : Hp} {fp : Nat → List Addr} {τ α : Type}
theorem AtS.back {g : EM Flow} {F0 H0 : Hp} {fp0 : Nat → List Addr} {D : Ends} (s : Stp F0 H0 (Pf fp0) F H (Pf fp)) (h : AtS K W bv g e σ F0 H0 fp0 D) : AtS K W bv g e σ F H fp D := by
  unfold AtS at h ⊢
  cases q : g e with
  | no => rw [q] at h; exact h
  | ex C fs e' => rw [q] at h; exact fun σ' F' H' fp' dx s' => h σ' F' H' fp' dx (s.trans s')
  | ok a e' =>
    rw [q] at h
    cases a with
    | nxt => exact fun σ' F' H' fp' s' => h σ' F' H' fp' (s.trans s')
    | brk => exact fun σ' F' H' fp' s' => h σ' F' H' fp' (s.trans s')
    | cnt => exact fun σ' F' H' fp' s' => h σ' F' H' fp' (s.trans s')
    | ret m => exact fun v σ' F' H' fp' P' s' => h v σ' F' H' fp' P' (s.trans s')
/-- AtS does not hang on the slots where it stands -/
theorem AtS.slots {g : EM Flow} {σ' : L2.St} {D : Ends} (h : AtS K W bv g e σ F H fp D) : AtS K W bv g e σ' F H fp D := h
theorem AtS.bnd' {r : Hp → τ → α → Prop} {f : EM α} {k : α → EM Flow} {D : Ends} (S : SS K bv e σ F H fp) (h : AtS K W bv (bnd f k) e σ F H fp D) :
    tG K W bv (smp r) f σ H fun x H1 => ∃ a e1 F1 fp1, Sub F F1 ∧ Stp F H (Pf fp) F1 H1 (Pf fp1) ∧ SS K bv e1 σ F1 H1 fp1 ∧ r F1 x a ∧ AtS K W bv (k a) e1 σ F1 H1 fp1 D := by
  refine ⟨e, F, fp, S, ?_⟩
  unfold AtS FD.bnd at h
  unfold AtG
  cases q : f e with
  | no => rw [q] at h; exact h
  | ex C fs e' => rw [q] at h; exact fun F' H' fp' dx s S' x => h σ F' H' fp' dx s S' x
  | ok a e' =>
    rw [q] at h
    intro x F' H' fp' P' s' S' r'
    obtain ⟨rfl, r'⟩ := r'
    exact ⟨a, e', F', fp', s'.ext, s', S', r', AtS.back s' h⟩
theorem AtS.bndM {f : EM M} {k : M → EM Flow} {D : Ends} (S : SS K bv e σ F H fp) (h : AtS K W bv (bnd f k) e σ F H fp D) :
    tM K W bv f σ H fun x H1 => ∃ m e1 F1 fp1 P1, f e = .ok m e1 ∧ Stp F H (Pf fp) F1 H1 P1 ∧ SS K bv e1 σ F1 H1 fp1 ∧ rM K F1 H1 fp1 P1 x m ∧ AtS K W bv (k m) e1 σ F H fp D := by
  refine ⟨e, F, fp, S, ?_⟩
  unfold AtS FD.bnd at h
  unfold AtG
  cases q : f e with
  | no => rw [q] at h; exact h
  | ex C fs e' => rw [q] at h; exact fun F' H' fp' dx s S' x => h σ F' H' fp' dx s S' x
  | ok a e' =>
    rw [q] at h
    intro x F' H' fp' P' s' S' r'
    exact ⟨a, e', F', fp', P', rfl, s', S', r', h⟩
/-- a slot is given another thing -/
theorem SS.store {i : Nat} {v : V} {m : M} {fpr : List Addr} {P : Addr → Prop} (S : SS K bv e σ F H fp) (hi : i < e.length) (hb : bv i = none) (o : Own K F H v m fpr) (nd : fpr.Nodup) (dj : ∀ a ∈ fpr, ¬ Pf fp a) (fr : ∀ a ∈ fpr, F a = none) :
    SS K bv (e.set i (some m)) (σ.set i (some v)) F H (FD.put fp i fpr) :=
  S.put (Sub.refl F) S.sub hi (List.getElem?_set_self (by rw [← S.len]; exact hi)) (fun j n => List.getElem?_set_ne (Ne.symm n)) (List.length_set ..) (fun u h => by rw [hb] at h; cases h) o nd fr (fun j _ a h q => dj a q ⟨j, h⟩) (fun _ _ _ _ _ h => h) fun j _ a h => S.fr j a h
theorem stp_store {F0 H0 : Hp} {fp0 : Nat → List Addr} {i : Nat} {fpr : List Addr} {P : Addr → Prop} (s : Stp F0 H0 (Pf fp0) F H P) (hP : P = fun a => Pf fp a ∨ a ∈ fpr) : Stp F0 H0 (Pf fp0) F H (Pf (FD.put fp i fpr)) where
  ext := s.ext
  keep := s.keep
  live := s.live
  newF := s.newF
  newP := fun a h => by
    obtain ⟨j, h⟩ := h
    refine s.newP a ?_
    rw [hP]
    by_cases n : j = i
    · rw [n, put_same] at h
      exact .inr h
    · rw [put_ne n] at h
      exact .inl ⟨j, h⟩
end

section
variable {X : Cx} {W : WX} {bv : Nat → Option V} {pos : Pos} {a b : Expr} {st : Stmt} {sts : List Stmt} {fa fb : EM D} {ta : EM Bool} {g g1 g2 : EM Flow}
def seqS (g1 g2 : EM Flow) : EM Flow := fun e => match g1 e with
  | .ok .nxt e' => g2 e'
  | o => o
theorem dss_nil : DSs X W bv [] (ret .nxt) := pss_imp pss_nil fun D σ H ⟨e, F, fp, S, q⟩ => q σ F H fp (Stp.refl _ _ _) S
theorem seqS_of {K : PySem.W.Frag} {D : Ends} {σ : L2.St} {H : Hp} (t : tS K W bv (seqS g1 g2) D σ H) : tS K W bv g1 { D with nx := tS K W bv g2 D } σ H := by
  obtain ⟨e, F, fp, S, h⟩ := t
  refine ⟨e, F, fp, S, ?_⟩
  unfold AtS seqS at h
  show OutS _ _ _ (g1 e) _ _ _ _
  cases q : g1 e with
  | no => rw [q] at h; exact h
  | ex C fs e' => rw [q] at h; exact h
  | ok fl e' =>
    rw [q] at h
    cases fl with
    | nxt => exact fun σ' F' H' fp' s' S' => ⟨e', F', fp', S', AtS.back s' (AtS.slots (σ := σ) h)⟩
    | brk => exact h
    | cnt => exact h
    | ret m => exact h
theorem dss_cons (h1 : DS X W bv st g1) (h2 : DSs X W bv sts g2) : DSs X W bv (st :: sts) (seqS g1 g2) := pss_imp (pss_cons h1 h2) fun D σ H t => seqS_of t
theorem dss_one (h1 : DS X W bv st g1) : DSs X W bv [st] g1 := pss_one h1
theorem ds_pass : DS X W bv (.Pass pos) (ret .nxt) := ps_imp ps_pass fun D σ H ⟨e, F, fp, S, q⟩ => q σ F H fp (Stp.refl _ _ _) S
theorem ds_break : DS X W bv (.Break pos) (ret .brk) := ps_imp ps_break fun D σ H ⟨e, F, fp, S, q⟩ => q σ F H fp (Stp.refl _ _ _) S
theorem ds_continue : DS X W bv (.Continue pos) (ret .cnt) := ps_imp ps_continue fun D σ H ⟨e, F, fp, S, q⟩ => q σ F H fp (Stp.refl _ _ _) S
/-- what is never reached -/
theorem ds_never : DS X W bv st (fun _ => .no) := ps_imp ps_never fun D σ H ⟨e, F, fp, S, q⟩ => q.elim
def exprS (f : EM D) : EM Flow := bnd f fun _ => ret .nxt
theorem ds_expr (h : DE X W bv a fa) (hs : swapsWith a none pos.line X.env = pure false := by rfl) : DS X W bv (.Expr a pos) (exprS fa) :=
  ps_imp (ps_expr h hs) fun D σ H ⟨e, F, fp, S, q⟩ =>
    tG.mono (AtS.bnd' (r := rD X.K) S q) fun x H1 ⟨d, e1, F1, fp1, _, _, S1, _, q1⟩ => q1 σ F1 H1 fp1 (Stp.refl _ _ _) S1
def retS (f : EM D) : EM Flow := bnd f fun d => ret (.ret (.im d))
def retM (f : EM M) : EM Flow := bnd f fun m => ret (.ret m)
theorem ds_ret (h : DE X W bv a fa) : DS X W bv (.Return (some a) pos) (retS fa) :=
  ps_imp (ps_ret h) fun D σ H ⟨e, F, fp, S, q⟩ =>
    tG.mono (AtS.bnd' (r := rD X.K) S q) fun x H1 ⟨d, e1, F1, fp1, _, _, S1, r1, q1⟩ => q1 x σ F1 H1 fp1 (Pf fp1) (Stp.refl _ _ _) S1 ⟨[], by simp, .im r1, List.nodup_nil, by simp, by simp⟩
theorem ds_retM {f : EM M} (h : DM X W bv a f) : DS X W bv (.Return (some a) pos) (retM f) :=
  ps_imp (ps_ret h) fun D σ H ⟨e, F, fp, S, q⟩ =>
    tG.mono (AtS.bndM S q) fun x H1 ⟨m, e1, F1, fp1, P1, _, s1, S1, r1, q1⟩ => q1 x σ F1 H1 fp1 P1 s1 S1 r1
theorem ds_retN : DS X W bv (.Return none pos) (ret (.ret (.im .none))) :=
  ps_imp ps_retN fun D σ H ⟨e, F, fp, S, q⟩ => q .non σ F H fp (Pf fp) (Stp.refl _ _ _) S ⟨[], by simp, .im .non, List.nodup_nil, by simp, by simp⟩
def ifS (c : EM Bool) (g1 g2 : EM Flow) : EM Flow := bnd c fun k => if k then g1 else g2
theorem ds_if {c : Expr} {s1 s2 : List Stmt} (hc : DT X W bv c ta) (h1 : DSs X W bv s1 g1) (h2 : DSs X W bv s2 g2) : DS X W bv (.If c s1 s2 pos) (ifS ta g1 g2) :=
  ps_imp (ps_if hc h1 h2) fun D σ H ⟨e, F, fp, S, q⟩ =>
    tG.mono (AtS.bnd' (r := rB) S q) fun x H1 ⟨k, e1, F1, fp1, _, _, S1, r1, q1⟩ => by
      cases (show x = k from r1)
      cases x with
      | true => exact ⟨e1, F1, fp1, S1, q1⟩
      | false => exact ⟨e1, F1, fp1, S1, q1⟩

/-! ### stores to names -/
def stoM (i : Nat) (m : M) : EM Flow := fun e => if i < e.length then .ok .nxt (e.set i (some m)) else .no
def setS (i : Nat) (f : EM D) : EM Flow := bnd f fun d => stoM i (.im d)
def setM (i : Nat) (f : EM M) : EM Flow := bnd f fun m => stoM i m
theorem stoM_at {K : PySem.W.Frag} {D : Ends} {σ : L2.St} {F0 H0 F H : Hp} {fp0 fp : Nat → List Addr} {e : Env} {i : Nat} {v : V} {m : M} {P : Addr → Prop} (hb : bv i = none) (s : Stp F0 H0 (Pf fp0) F H P) (S : SS K bv e σ F H fp) (r : rM K F H fp P v m) (q : AtS K W bv (stoM i m) e σ F0 H0 fp0 D) :
    D.nx (σ.set i (some v)) H := by
  obtain ⟨fpr, hP, o, nd, dj, fr⟩ := r
  unfold AtS stoM at q
  by_cases hi : i < e.length
  · rw [if_pos hi] at q
    exact q _ F H (put fp i fpr) (stp_store s hP) (S.store (P := P) hi hb o nd dj fr)
  · rw [if_neg hi] at q
    exact q.elim
theorem rM_im {K : PySem.W.Frag} {F H : Hp} {fp : Nat → List Addr} {v : V} {d : D} (r : Rp K F v d) : rM K F H fp (Pf fp) v (.im d) := ⟨[], by simp, .im r, List.nodup_nil, by simp, by simp⟩
theorem ds_set (i : Nat) {x : Str} {pos' : Pos} (hN : X.N.Nodup) (h : DE X W bv a fa) (hi : X.N[i]? = some x := by rfl) (hx : Loc X.env.scope x := by first | exact Or.inl rfl | exact Or.inr rfl) (hb : bv i = none := by rfl)
    (hs : swapsWith a (some (.Name x pos')) pos.line X.env = pure false := by rfl) (hf : X.fn x = true ∨ X.env.scope.names.lookup x = some .local := by first | exact .inl rfl | exact .inr rfl) : DS X W bv (.Assign [.Name x pos'] a pos) (setS i fa) :=
  ps_imp (ps_set hN hi hx h hs hf) fun D σ H ⟨e, F, fp, S, q⟩ =>
    tG.mono (AtS.bnd' (r := rD X.K) S q) fun v H1 ⟨d, e1, F1, fp1, _, _, S1, r1, q1⟩ => stoM_at hb (Stp.refl _ _ _) S1 (rM_im r1) q1
theorem ds_setM (i : Nat) {x : Str} {pos' : Pos} {f : EM M} (hN : X.N.Nodup) (h : DM X W bv a f) (hi : X.N[i]? = some x := by rfl) (hx : Loc X.env.scope x := by first | exact Or.inl rfl | exact Or.inr rfl) (hb : bv i = none := by rfl)
    (hs : swapsWith a (some (.Name x pos')) pos.line X.env = pure false := by rfl) (hf : X.fn x = true ∨ X.env.scope.names.lookup x = some .local := by first | exact .inl rfl | exact .inr rfl) : DS X W bv (.Assign [.Name x pos'] a pos) (setM i f) :=
  ps_imp (ps_set hN hi hx h hs hf) fun D σ H ⟨e, F, fp, S, q⟩ =>
    tG.mono (AtS.bndM S q) fun v H1 ⟨d, e1, F1, fp1, P1, _, s1, S1, r1, q1⟩ => stoM_at hb s1 S1 r1 q1

/-! ### targets -/
/-! what a target makes of data -/
/-- the slots but those at l are as they were -/
def Off (l : List Nat) (σ σ' : L2.St) : Prop := σ'.length = σ.length ∧ ∀ j, j ∉ l → σ'[j]? = σ[j]?
theorem Off.refl (σ : L2.St) : Off [] σ σ := ⟨rfl, fun _ _ => rfl⟩
theorem Off.set (i : Nat) (σ : L2.St) (x : Option V) : Off [i] σ (σ.set i x) := ⟨List.length_set .., fun j h => List.getElem?_set_ne fun e => h (by rw [e]; exact List.mem_singleton.mpr rfl)⟩
theorem Off.trans {l l' : List Nat} {σ σ1 σ2 : L2.St} (a : Off l σ σ1) (b : Off l' σ1 σ2) : Off (l ++ l') σ σ2 := ⟨b.1.trans a.1, fun j h => by
  rw [List.mem_append, not_or] at h
  rw [b.2 j h.2, a.2 j h.1]⟩
def tTg (K : PySem.W.Frag) (bv : Nat → Option V) (l : List Nat) (tg : D → EM Unit) : TG := fun v σ H Q => ∃ e F fp d, SS K bv e σ F H fp ∧ Rp K F v d ∧ match tg d e with
  | .ok _ e' => ∀ σ' F' H' fp', Off l σ σ' → Stp F H (Pf fp) F' H' (Pf fp') → SS K bv e' σ' F' H' fp' → Q σ' H'
  | _ => False
def tTgs (K : PySem.W.Frag) (bv : Nat → Option V) (l : List Nat) (tg : List D → EM Unit) : TGs := fun v σ H Q => ∃ e F fp d, SS K bv e σ F H fp ∧ RpL K F v d ∧ match tg d e with
  | .ok _ e' => ∀ σ' F' H' fp', Off l σ σ' → Stp F H (Pf fp) F' H' (Pf fp') → SS K bv e' σ' F' H' fp' → Q σ' H'
  | _ => False
abbrev DG (X : Cx) (bv : Nat → Option V) (tg : Expr) (l : List Nat) (f : D → EM Unit) : Prop := PG X tg (tTg X.K bv l f)
abbrev DGs (X : Cx) (bv : Nat → Option V) (tg : List Expr) (l : List Nat) (f : List D → EM Unit) : Prop := PGs X tg (tTgs X.K bv l f)
theorem pg_imp {X : Cx} {e : Expr} {t t' : TG} (h : PG X e t) (w : ∀ v σ H Q, t' v σ H Q → t v σ H Q) : PG X e t' := ⟨fun pins s σ H v u Q I r q => h.run pins s σ H v u Q I r (w v σ H Q q)⟩
theorem pgs_imp {X : Cx} {e : List Expr} {t t' : TGs} (h : PGs X e t) (w : ∀ v σ H Q, t' v σ H Q → t v σ H Q) : PGs X e t' := ⟨fun pins s σ H v u Q I r q => h.run pins s σ H v u Q I r (w v σ H Q q)⟩
def gN (i : Nat) : D → EM Unit := fun d e => if i < e.length then .ok () (e.set i (some (.im d))) else .no
theorem dg_name (i : Nat) {x : Str} (hN : X.N.Nodup) (hi : X.N[i]? = some x := by rfl) (hx : Loc X.env.scope x := by first | exact Or.inl rfl | exact Or.inr rfl) (hb : bv i = none := by rfl) (hf : X.fn x = true ∨ X.env.scope.names.lookup x = some .local := by first | exact .inl rfl | exact .inr rfl) : DG X bv (.Name x pos) [i] (gN i) :=
  pg_imp (pg_name hN hi hx hf) fun v σ H Q ⟨e, F, fp, d, S, r, q⟩ => by
    unfold gN at q
    by_cases hi : i < e.length
    · rw [if_pos hi] at q
      obtain ⟨fpr, hP, o, nd, dj, fr⟩ := rM_im (H := H) (fp := fp) r
      exact q _ F H (put fp i fpr) (Off.set i σ _) (stp_store (Stp.refl _ _ _) hP) (S.store (P := Pf fp) hi hb o nd dj fr)
    · rw [if_neg hi] at q
      exact q.elim
def gsNil : List D → EM Unit := fun ds e => match ds with
  | [] => .ok () e
  | _ => .no
def gsCons (t : D → EM Unit) (u : List D → EM Unit) : List D → EM Unit := fun ds e => match ds with
  | d :: r => bnd (t d) (fun _ => u r) e
  | [] => .no
theorem dgs_nil : DGs X bv [] [] gsNil := pgs_imp pgs_nil fun v σ H Q ⟨e, F, fp, d, S, r, q⟩ => by
  cases r with
  | nil => exact ⟨rfl, q σ F H fp (Off.refl σ) (Stp.refl _ _ _) S⟩
  | cons _ _ => exact q.elim
theorem dgs_cons {es : List Expr} {l l' : List Nat} {t : D → EM Unit} {u : List D → EM Unit} (h1 : DG X bv a l t) (h2 : DGs X bv es l' u) (hs : (assignEach (a :: es) X.env).map (·.2) = assign a X.env :: (assignEach es X.env).map (·.2) := by rfl) : DGs X bv (a :: es) (l ++ l') (gsCons t u) :=
  pgs_imp (pgs_cons h1 h2 hs) fun vs σ H Q t0 => by
    obtain ⟨e, F, fp, ds, S, r, q⟩ := t0
    cases r with
    | nil => exact q.elim
    | cons r1 r2 =>
      rename_i v vs' d ds'
      refine ⟨v, vs', rfl, e, F, fp, d, S, r1, ?_⟩
      simp only [gsCons, bnd] at q
      cases z : t d e with
      | no => rw [z] at q; exact q.elim
      | ex _ _ _ => rw [z] at q; exact q.elim
      | ok _ e1 =>
        rw [z] at q
        dsimp only at q
        intro σ1 F1 H1 fp1 o1 s1 S1
        refine ⟨e1, F1, fp1, ds', S1, r2.mono s1.ext, ?_⟩
        cases z2 : u ds' e1 with
        | no => rw [z2] at q; exact q.elim
        | ex _ _ _ => rw [z2] at q; exact q.elim
        | ok _ e2 => rw [z2] at q; exact fun σ' F' H' fp' o' s' S' => q σ' F' H' fp' (o1.trans o') (s1.trans s') S'
def gT (n : Nat) (u : List D → EM Unit) : D → EM Unit := fun d e => match d with
  | .tuple ds => if ds.length = n then u ds e else .no
  | _ => .no
theorem dg_tup {es : List Expr} {k n : Nat} {l : List Nat} {u : List D → EM Unit} (h : DGs X bv es l u) (hc : X.calm = true := by rfl) (hn : (assignEach es X.env).length = n := by rfl) (hst : (assignEach es X.env).findIdx? (·.1) = none := by rfl) : DG X bv (.Tuple es k pos) l (gT n u) :=
  pg_imp (pg_tup hc h hn hst) fun v σ H Q t0 => by
    obtain ⟨e, F, fp, d, S, r, q⟩ := t0
    cases r with
    | tup hq rl =>
      rename_i a0 vs0 ds0
      simp only [gT] at q
      by_cases hl : ds0.length = n
      · simp only [if_pos hl] at q
        exact ⟨_, _, rfl, S.sub.t hq, by rw [rl.length]; exact hl, e, F, fp, _, S, rl, q⟩
      · simp only [if_neg hl] at q
    | _ => exact q.elim
end
end FD

/-! FD: more stores, while, for. -/
namespace FD
open PySem L2
section
variable {X : Cx} {W : WX} {bv : Nat → Option V} {pos : Pos} {a b : Expr} {st : Stmt} {sts : List Stmt} {fa fb : EM D} {fs : EM (List D)} {ta : EM Bool} {g g1 g2 : EM Flow}
def goS (u : EM Unit) : EM Flow := bnd u fun _ => ret .nxt
theorem goS_at {K : PySem.W.Frag} {D : Ends} {σ : L2.St} {F H : Hp} {fp : Nat → List Addr} {e : Env} {u : EM Unit} (q : AtS K W bv (goS u) e σ F H fp D) (hu : ∀ C fs e', u e ≠ .ex C fs e') : match u e with
    | .ok _ e' => ∀ σ' F' H' fp', Stp F H (Pf fp) F' H' (Pf fp') → SS K bv e' σ' F' H' fp' → D.nx σ' H'
    | _ => False := by
  unfold AtS goS bnd at q
  cases z : u e with
  | no => rw [z] at q; exact q
  | ex C fs e' => exact absurd z (hu C fs e')
  | ok _ e' => rw [z] at q; exact q
/-- a target never raises -/
def NoEx (t : D → EM Unit) : Prop := ∀ d e C fs e', t d e ≠ .ex C fs e'
def NoExs (t : List D → EM Unit) : Prop := ∀ d e C fs e', t d e ≠ .ex C fs e'
theorem nx_name (i : Nat) : NoEx (gN i) := fun d e C fs e' h => by
  unfold gN at h
  split at h <;> cases h
theorem nx_nil : NoExs gsNil := fun d e C fs e' h => by
  cases d <;> cases h
theorem nx_cons {t : D → EM Unit} {u : List D → EM Unit} (h1 : NoEx t) (h2 : NoExs u) : NoExs (gsCons t u) := fun d e C fs e' h => by
  cases d with
  | nil => cases h
  | cons d r =>
    simp only [gsCons, bnd] at h
    cases z : t d e with
    | no => rw [z] at h; cases h
    | ex _ _ _ => exact h1 _ _ _ _ _ z
    | ok _ e1 => rw [z] at h; exact h2 _ _ _ _ _ h
theorem nx_tup {n : Nat} {u : List D → EM Unit} (h : NoExs u) : NoEx (gT n u) := fun d e C fs e' q => by
  unfold gT at q
  split at q
  · split at q
    · exact h _ _ _ _ _ q
    · cases q
  · cases q
def asgS (f : EM D) (t : D → EM Unit) : EM Flow := bnd f fun d => goS (t d)
theorem ds_asg {tg : Expr} {l : List Nat} {t : D → EM Unit} (h : DE X W bv a fa) (hg : DG X bv tg l t) (hn : NoEx t) (hs : swapsWithSole [tg] a pos.line X.env = pure false := by rfl) (hw : swappedStores [tg] a X.env = pure none := by rfl)
    (h1 : (assignEach [tg] X.env).map (·.2) = [assign tg X.env] := by rfl) : DS X W bv (.Assign [tg] a pos) (asgS fa t) :=
  ps_imp (ps_asg h hg hs hw h1) fun D σ H ⟨e, F, fp, S, q⟩ =>
    tG.mono (AtS.bnd' (r := rD X.K) S q) fun v H1 ⟨d, e1, F1, fp1, _, _, S1, r1, q1⟩ => ⟨e1, F1, fp1, d, S1, r1, by
      have z := goS_at q1 (hn d e1)
      cases w : t d e1 with
      | no => rw [w] at z; exact z
      | ex _ _ _ => rw [w] at z; exact z
      | ok _ e' => rw [w] at z; exact fun σ' F' H' fp' _ s' S' => z σ' F' H' fp' s' S'⟩
/-- a, b = x, y with two plain names -/
def parS (fs : EM (List D)) (u : List D → EM Unit) : EM Flow := bnd fs fun ds => goS (u ds)
theorem gN_at {K : PySem.W.Frag} {σ : L2.St} {F H : Hp} {fp : Nat → List Addr} {e e' : Env} {i : Nat} {v : V} {d : D} (hb : bv i = none) (S : SS K bv e σ F H fp) (r : Rp K F v d) (q : gN i d e = .ok () e') :
    ∃ fp', Stp F H (Pf fp) F H (Pf fp') ∧ SS K bv e' (σ.set i (some v)) F H fp' := by
  unfold gN at q
  by_cases hi : i < e.length
  · rw [if_pos hi] at q
    cases q
    obtain ⟨fpr, hP, o, nd, dj, fr⟩ := rM_im (H := H) (fp := fp) r
    exact ⟨_, stp_store (Stp.refl _ _ _) hP, S.store (P := Pf fp) hi hb o nd dj fr⟩
  · rw [if_neg hi] at q
    cases q
theorem bnd_ok {α β : Type} {f : EM α} {k : α → EM β} {e e' : Env} {y : β} (h : bnd f k e = .ok y e') : ∃ x e1, f e = .ok x e1 ∧ k x e1 = .ok y e' := by
  unfold bnd at h
  cases z : f e with
  | no => rw [z] at h; cases h
  | ex _ _ _ => rw [z] at h; cases h
  | ok x e1 => rw [z] at h; exact ⟨x, e1, rfl, h⟩
theorem par2_at {K : PySem.W.Frag} {En : Ends} {σ : L2.St} {F H : Hp} {fp : Nat → List Addr} {e : Env} {i j : Nat} {vs : List V} {ds : List D} (hi : bv i = none) (hj : bv j = none) (S : SS K bv e σ F H fp) (r : RpL K F vs ds)
    (q : AtS K W bv (goS (gsCons (gN i) (gsCons (gN j) gsNil) ds)) e σ F H fp En) : ∃ v w, vs = [v, w] ∧ En.nx ((σ.set i (some v)).set j (some w)) H := by
  have q := goS_at q (nx_cons (nx_name i) (nx_cons (nx_name j) nx_nil) ds e)
  cases z : gsCons (gN i) (gsCons (gN j) gsNil) ds e with
  | no => rw [z] at q; exact q.elim
  | ex _ _ _ => rw [z] at q; exact q.elim
  | ok _ e' =>
    rw [z] at q
    cases r with
    | nil => cases z
    | cons r1 r =>
      cases r with
      | nil => obtain ⟨_, _, _, z2⟩ := bnd_ok z; cases z2
      | cons r2 r =>
        cases r with
        | cons _ _ =>
          obtain ⟨_, _, _, z2⟩ := bnd_ok z
          obtain ⟨_, _, _, z3⟩ := bnd_ok z2
          cases z3
        | nil =>
          obtain ⟨_, e1, z1, z2⟩ := bnd_ok z
          obtain ⟨_, e2, z2, z3⟩ := bnd_ok z2
          cases z3
          obtain ⟨fp1, s1, S1⟩ := gN_at hi S r1 z1
          obtain ⟨fp2, s2, S2⟩ := gN_at hj S1 r2 z2
          exact ⟨_, _, rfl, q _ _ _ fp2 (s1.trans s2) S2⟩
theorem ds_par2 (i j : Nat) {x y : Str} {px py pt : Pos} {kt k2 pt2} (hN : X.N.Nodup) (ha : DA X W bv [a, b] fs) (hc : X.calm = true := by rfl) (hi : X.N[i]? = some x := by rfl) (hj : X.N[j]? = some y := by rfl) (hij : i ≠ j := by decide)
    (hx : X.env.scope.names.lookup x = some .local := by rfl) (hy : X.env.scope.names.lookup y = some .local := by rfl) (hbi : bv i = none := by rfl) (hbj : bv j = none := by rfl)
    (hw : swappedStores [.Tuple [.Name x px, .Name y py] kt pt] (.Tuple [a, b] k2 pt2) X.env = pure (some [x, y]) := by rfl)
    (hs : swapsWithSole [.Tuple [.Name x px, .Name y py] kt pt] (.Tuple [a, b] k2 pt2) pos.line X.env = pure false := by rfl) :
    DS X W bv (.Assign [.Tuple [.Name x px, .Name y py] kt pt] (.Tuple [a, b] k2 pt2) pos) (parS fs (gsCons (gN i) (gsCons (gN j) gsNil))) :=
  ps_imp (ps_par hc hN hi hj hij hx hy ha hw hs) fun D σ H ⟨e, F, fp, S, q⟩ =>
    tG.mono (AtS.bnd' (r := rL X.K) S q) fun vs H1 ⟨ds, e1, F1, fp1, _, _, S1, r1, q1⟩ => par2_at hbi hbj S1 r1 q1
/-- x op= e of numbers -/
def augS (i : Nat) (g : D → D → Option D) (f : EM D) : EM Flow := bnd (var i) fun x => bnd f fun y => bnd (lif (g x y)) fun z => stoM i (.im z)
theorem ds_aug (i : Nat) {x : Str} {op : Operator} {g : D → D → Option D} {pos' : Pos} (hN : X.N.Nodup) (ho : OpD X (inplaceOp op) g) (h : DE X W bv a fa) (hi : X.N[i]? = some x := by rfl) (hx : Loc X.env.scope x := by first | exact Or.inl rfl | exact Or.inr rfl) (hb : bv i = none := by rfl)
    (hf : X.fn x = true ∨ X.env.scope.names.lookup x = some .local := by first | exact .inl rfl | exact .inr rfl) : DS X W bv (.AugAssign (.Name x pos') op a pos) (augS i g fa) := by
  obtain ⟨r, hr, h'⟩ := ho
  refine ps_imp (ps_aug hN hi hx h hr hf) fun D σ H ⟨e, F, fp, S, q⟩ => ?_
  obtain ⟨e0, F0, fp0, S0, q0⟩ := AtS.bnd' (r := rD X.K) S q
  obtain ⟨v, hv, d, e1, F1, fp1, _, _, S1, r1, q1⟩ := var_at S0 q0
  refine ⟨v, hv, ?_⟩
  refine tG.mono (AtS.bnd' (r := rD X.K) S1 q1) fun y H2 ⟨d2, e2, F2, fp2, s2, _, S2, r2, q2⟩ => ?_
  obtain ⟨e3, F3, fp3, S3, q3⟩ := AtS.bnd' (r := rD X.K) S2 q2
  refine h' W bv e2 σ F2 H2 fp2 v y d d2 _ S2 (r1.mono s2) r2 ?_
  unfold AtG
  cases z : g d d2 with
  | none => rw [z] at q2; exact q2
  | some w =>
    rw [z] at q2
    intro v' F' H' fp' P' s' S' r'
    obtain ⟨rfl, r'⟩ := r'
    exact stoM_at hb s' S' (rM_im r') q2
def iaddD : D → D → Option D := intOp allI (· + ·)
theorem oi_add : OpD X (inplaceOp .Add) iaddD := ⟨_, iop_add, opv_int0⟩
theorem oi_sub : OpD X (inplaceOp .Sub) subD := ⟨_, iop_sub, opv_int0⟩

/-! ### while -/
def whileS : Nat → EM Bool → EM Flow → EM Flow
  | 0, _, _ => fun _ => .no
  | n + 1, c, g => bnd c fun k => if k then (fun e => match g e with
      | .ok .nxt e' => whileS n c g e'
      | .ok .cnt e' => whileS n c g e'
      | .ok .brk e' => .ok .nxt e'
      | .ok (.ret m) e' => .ok (.ret m) e'
      | .ex C fs e' => .ex C fs e'
      | .no => .no) else ret .nxt
theorem ds_while (n : Nat) {c : Expr} {body : List Stmt} (hc : DT X W bv c ta) (hb : DSs X W bv body g) (hp : PassesOwn (model X.prog X.w) X.A X.env X.xe) : DS X W bv (.While c body [] pos) (whileS n ta g) :=
  ps_imp (ps_while hp hc hb) fun D σ H ⟨e, F, fp, S, q⟩ => by
    refine ⟨fun m σ' H' => ∃ e' F' fp', SS X.K bv e' σ' F' H' fp' ∧ AtS X.K W bv (whileS m ta g) e' σ' F' H' fp' D, ⟨n, e, F, fp, S, q⟩, fun m σ' H' ⟨e', F', fp', S', q'⟩ => ?_⟩
    cases m with
    | zero => exact q'.elim
    | succ m =>
      refine tG.mono (AtS.bnd' (r := rB) S' q') fun x H1 ⟨k, e1, F1, fp1, _, _, S1, r1, q1⟩ => ?_
      cases (show x = k from r1)
      cases x with
      | false =>
        rw [if_neg Bool.false_ne_true]
        exact q1 σ' F1 H1 fp1 (Stp.refl _ _ _) S1
      | true =>
        rw [if_pos rfl]
        refine ⟨_, fun σ2 H2 h2 => ⟨m, Nat.lt_succ_self m, h2⟩, e1, F1, fp1, S1, ?_⟩
        rw [if_pos rfl] at q1
        show OutS _ _ _ (g e1) _ _ _ _
        unfold AtS at q1
        dsimp only at q1
        cases z : g e1 with
        | no => rw [z] at q1; exact q1
        | ex C fs e2 => rw [z] at q1; exact q1
        | ok fl e2 =>
          rw [z] at q1
          cases fl with
          | nxt => exact fun σ2 F2 H2 fp2 s2 S2 => ⟨e2, F2, fp2, S2, AtS.back s2 (AtS.slots (σ := σ') q1)⟩
          | cnt => exact fun σ2 F2 H2 fp2 s2 S2 => ⟨e2, F2, fp2, S2, AtS.back s2 (AtS.slots (σ := σ') q1)⟩
          | brk => exact q1
          | ret _ => exact q1

/-! ### what is walked -/
def Grow (F H F' H' : Hp) : Prop := (F' = F ∧ H' = H) ∨ (∃ p o, H p = none ∧ F' = upd F p o ∧ H' = upd H p o) ∨ ∃ p vs, H p = some (.tup vs) ∧ F' = upd F p (.tup vs) ∧ H' = H
/-- while F stands, J gives the data ds, one by one -/
def WalksD (K : PySem.W.Frag) (J : It) (F : Hp) (ds : List D) : Prop := ∀ F' H i, Sub F F' → Sub F' H →
  (∀ d, ds[i]? = some d → J.go i H ∧ ∀ x H', J.yld i H x H' → ∃ F'', Grow F' H F'' H' ∧ Rp K F'' x d) ∧ (ds.length ≤ i → i ≤ ds.length → J.stop i H)
def tI (K : PySem.W.Frag) (W : WX) (bv : Nat → Option V) (f : EM (List D)) : TI := fun σ H R => ∃ e F fp, SS K bv e σ F H fp ∧ match f e with
  | .ok ds e' => ∀ J F' H' fp', Stp F H (Pf fp) F' H' (Pf fp') → SS K bv e' σ F' H' fp' → WalksD K J F' ds → R J H'
  | .ex C fs e' => ∀ F' H' fp' dx, Stp F H (Pf fp) F' H' (Pf fp') → SS K bv e' σ F' H' fp' → XRep K F' fs dx → W (.ref C) dx σ H'
  | .no => False
abbrev DI (X : Cx) (W : WX) (bv : Nat → Option V) (tg iter : Expr) (f : EM (List D)) : Prop := PI X tg iter (tI X.K W bv f)
theorem pi_imp {X : Cx} {tg e : Expr} {t t' : TI} (h : PI X tg e t) (w : ∀ σ H Q, t' σ H Q → t σ H Q) : PI X tg e t' := ⟨fun pins s σ H Q I q => h.run pins s σ H Q I (w σ H Q q)⟩
theorem Sub.seen {F H : Hp} {p : Addr} {vs : List V} (s : Sub F H) (hp : H p = some (.tup vs)) : Sub F (upd F p (.tup vs)) ∧ Sub (upd F p (.tup vs)) H := by
  have rp : ∀ u, Rd F p u → u = .tup vs := fun u r => by
    rcases s.rd p u r with z | ⟨o, z⟩
    · rw [hp] at z; cases z; rfl
    · rw [hp] at z; cases z
  refine ⟨⟨fun a u r => ?_, fun a ws q => ?_, fun a ob u q => ?_⟩, ⟨fun a u r => ?_, fun a ws q => ?_, fun a ob u q => ?_⟩⟩
  · by_cases e : a = p
    · subst e
      rw [rp u r]
      exact .inl upd_same
    · exact rd_at (upd_ne e) r
  · by_cases e : a = p
    · subst e
      have := s.tp _ _ q
      rw [hp] at this
      cases this
      exact upd_same
    · rw [upd_ne e]; exact q
  · by_cases e : a = p
    · subst e
      have := s.fz _ _ _ q
      rw [hp] at this
      cases this
    · rw [upd_ne e]; exact q
  · by_cases e : a = p
    · subst e
      exact rd_at (by rw [hp, upd_same]) r
    · exact s.rd a u (rd_at (upd_ne e).symm r)
  · by_cases e : a = p
    · subst e
      rw [upd_same] at q
      rw [hp]; exact q
    · rw [upd_ne e] at q; exact s.tp a ws q
  · by_cases e : a = p
    · subst e
      rw [upd_same] at q
      cases q
    · rw [upd_ne e] at q; exact s.fz a ob u q
theorem Grow.stp {F H F' H' : Hp} {P : Addr → Prop} (s : Sub F H) (g : Grow F H F' H') : Stp F H P F' H' P := by
  rcases g with ⟨rfl, rfl⟩ | ⟨p, o, hp, rfl, rfl⟩ | ⟨p, vs, hp, rfl, rfl⟩
  · exact Stp.refl _ _ _
  · exact Stp.new s hp
  · refine ⟨(s.seen hp).1, fun _ _ h _ _ => h, fun _ h => h, fun a h => ?_, fun _ h => .inl h⟩
    by_cases e : a = p
    · subst e
      exact .inr (.inr fun o ho => by rw [hp] at ho; cases ho; exact ⟨_, rfl⟩)
    · rw [upd_ne e] at h; exact .inl h
theorem Grow.ss {K : PySem.W.Frag} {e : Env} {σ : L2.St} {F H F' H' : Hp} {fp : Nat → List Addr} (S : SS K bv e σ F H fp) (g : Grow F H F' H') : SS K bv e σ F' H' fp := by
  rcases g with ⟨rfl, rfl⟩ | ⟨p, o, hp, rfl, rfl⟩ | ⟨p, vs, hp, rfl, rfl⟩
  · exact S
  · exact S.new hp
  · refine S.heap (S.sub.seen hp).1 (S.sub.seen hp).2 (fun _ _ _ _ h => h) fun i a h => ?_
    rw [upd_ne fun z => S.ntup h vs (by rw [z]; exact hp)]
    exact S.fr i a h
def loopS (t : D → EM Unit) (g : EM Flow) : List D → EM Flow
  | [] => ret .nxt
  | d :: ds => fun e => match t d e with
    | .ok _ e1 => match g e1 with
      | .ok .nxt e' => loopS t g ds e'
      | .ok .cnt e' => loopS t g ds e'
      | .ok .brk e' => .ok .nxt e'
      | .ok (.ret m) e' => .ok (.ret m) e'
      | .ex C fs e' => .ex C fs e'
      | .no => .no
    | _ => .no
def forS (f : EM (List D)) (t : D → EM Unit) (g : EM Flow) : EM Flow := bnd f fun ds => loopS t g ds
theorem ds_for {tg iter : Expr} {body : List Stmt} {fi : EM (List D)} {l : List Nat} {t : D → EM Unit} (hi : DI X W bv tg iter fi) (hg : DG X bv tg l t) (hb : DSs X W bv body g) (hp : PassesOwn (model X.prog X.w) X.A X.env X.xe) (hc : X.calm = true := by rfl)
    (hs : ∀ x, foldedSetIterable iter X.env x = pure x := by intro _; rfl) : DS X W bv (.For tg iter body [] pos) (forS fi t g) :=
  ps_imp (ps_for hp hc hi hg hb hs) fun D σ H ⟨e, F, fp, S, q⟩ => by
    refine ⟨e, F, fp, S, ?_⟩
    unfold AtS forS bnd at q
    cases z : fi e with
    | no => rw [z] at q; exact q
    | ex C fs e' => rw [z] at q; exact fun F' H' fp' dx s S' x => q σ F' H' fp' dx s S' x
    | ok ds e1 =>
      rw [z] at q
      intro J F1 H1 fp1 s1 S1 wk
      have q1 : AtS X.K W bv (loopS t g ds) e1 σ F1 H1 fp1 D := AtS.back s1 q
      refine ⟨fun i m σ' H' => m = ds.length - i ∧ i ≤ ds.length ∧ ∃ e' F' fp', Sub F1 F' ∧ SS X.K bv e' σ' F' H' fp' ∧ AtS X.K W bv (loopS t g (ds.drop i)) e' σ' F' H' fp' D, ⟨ds.length, rfl, Nat.zero_le _, e1, F1, fp1, Sub.refl _, S1, q1⟩, ?_⟩
      rintro i m σ' H' ⟨rfl, hi, e', F', fp', sub, S', q'⟩
      obtain ⟨go, stop⟩ := wk F' H' i sub S'.sub
      by_cases hlt : i < ds.length
      · refine .inr ⟨(go ds[i] (List.getElem?_eq_getElem hlt)).1, _, fun σ2 H2 h2 => ⟨ds.length - (i + 1), by omega, h2⟩, fun x H2 y => ?_⟩
        obtain ⟨F2, gr, r2⟩ := (go ds[i] (List.getElem?_eq_getElem hlt)).2 x H2 y
        have S2 := gr.ss S'
        have s2 : Stp F' H' (Pf fp') F2 H2 (Pf fp') := gr.stp S'.sub
        have q2 := AtS.back (fp := fp') s2 q'
        rw [List.drop_eq_getElem_cons hlt] at q2
        refine ⟨e', F2, fp', ds[i], S2, r2, ?_⟩
        unfold AtS at q2
        simp only [loopS] at q2
        cases z2 : t ds[i] e' with
        | no => rw [z2] at q2; exact q2
        | ex _ _ _ => rw [z2] at q2; exact q2
        | ok _ e3 =>
          rw [z2] at q2
          dsimp only at q2 ⊢
          intro σ3 F3 H3 fp3 _ s3 S3
          refine ⟨e3, F3, fp3, S3, ?_⟩
          show OutS _ _ _ (g e3) _ _ _ _
          cases z3 : g e3 with
          | no => rw [z3] at q2; exact q2
          | ex C fs e4 => rw [z3] at q2; exact fun σ' F' H' fp' dx s => q2 σ' F' H' fp' dx (s3.trans s)
          | ok fl e4 =>
            rw [z3] at q2
            have again : ∀ σ4 F4 H4 fp4, Stp F3 H3 (Pf fp3) F4 H4 (Pf fp4) → SS X.K bv e4 σ4 F4 H4 fp4 → AtS X.K W bv (loopS t g (ds.drop (i + 1))) e4 σ' F2 H2 fp' D → ds.length - (i + 1) = ds.length - (i + 1) ∧ i + 1 ≤ ds.length ∧ ∃ e' F' fp', Sub F1 F' ∧ SS X.K bv e' σ4 F' H4 fp' ∧ AtS X.K W bv (loopS t g (ds.drop (i + 1))) e' σ4 F' H4 fp' D := fun σ4 F4 H4 fp4 s4 S4 q4 =>
              ⟨rfl, hlt, e4, F4, fp4, ((sub.trans s2.ext).trans s3.ext).trans s4.ext, S4, AtS.back (s3.trans s4) q4⟩
            cases fl with
            | nxt => exact fun σ4 F4 H4 fp4 s4 S4 => again σ4 F4 H4 fp4 s4 S4 q2
            | cnt => exact fun σ4 F4 H4 fp4 s4 S4 => again σ4 F4 H4 fp4 s4 S4 q2
            | brk => exact fun σ4 F4 H4 fp4 s4 S4 => q2 σ4 F4 H4 fp4 (s3.trans s4) S4
            | ret m => exact fun v σ4 F4 H4 fp4 P4 s4 S4 => q2 v σ4 F4 H4 fp4 P4 (s3.trans s4) S4
      · have ei : i = ds.length := by omega
        subst ei
        rw [List.drop_length] at q'
        exact .inl ⟨stop (Nat.le_refl _) (Nat.le_refl _), q' σ' F' H' fp' (Stp.refl _ _ _) S'⟩

/-! ### lists, tuples, texts, ranges -/
def itD : D → Option (List D)
  | .list ds => some ds
  | .tuple ds => some ds
  | .str x => some (x.cps.toList.map fun c => .str ⟨#[c]⟩)
  | _ => none
def itL : D → Option (List D)
  | .list ds => some ds
  | _ => none
def itT : D → Option (List D)
  | .tuple ds => some ds
  | _ => none
def itS : D → Option (List D)
  | .str x => some (x.cps.toList.map fun c => .str ⟨#[c]⟩)
  | _ => none
def itE (g : D → Option (List D)) (f : EM D) : EM (List D) := bnd f fun d => lif (g d)
theorem tI_bnd {K : PySem.W.Frag} {σ : L2.St} {H : Hp} {f : EM D} {k : D → Option (List D)} {R : It → Hp → Prop} (t : tI K W bv (itE k f) σ H R) :
    tE K W bv f σ H fun x H1 => ∃ d e1 F1 fp1 ds, SS K bv e1 σ F1 H1 fp1 ∧ Rp K F1 x d ∧ k d = some ds ∧ ∀ J F2 H2 fp2, Stp F1 H1 (Pf fp1) F2 H2 (Pf fp2) → SS K bv e1 σ F2 H2 fp2 → WalksD K J F2 ds → R J H2 := by
  obtain ⟨e, F, fp, S, q⟩ := t
  refine ⟨e, F, fp, S, ?_⟩
  unfold AtG
  unfold itE bnd at q
  cases z : f e with
  | no => rw [z] at q; exact q
  | ex C fs e' => rw [z] at q; exact q
  | ok d e1 =>
    rw [z] at q
    intro x F1 H1 fp1 P1 s1 S1 r1
    obtain ⟨rfl, r1⟩ := r1
    dsimp only at q
    cases z2 : k d with
    | none => rw [z2] at q; exact q.elim
    | some ds =>
      rw [z2] at q
      exact ⟨d, e1, F1, fp1, ds, S1, r1, z2, fun J F2 H2 fp2 s2 S2 w => q J F2 H2 fp2 (s1.trans s2) S2 w⟩
theorem di_list {tg : Expr} (h : DE X W bv a fa) : DI X W bv tg a (itE itL fa) :=
  pi_imp (pi_list h) fun σ H R t => tG.mono (tI_bnd t) fun x H1 ⟨d, e1, F1, fp1, ds, S1, r1, hk, q⟩ => by
    cases r1 with
    | lst hl rl =>
      cases hk
      refine ⟨_, rfl, ⟨_, S1.sub.l hl⟩, q _ F1 H1 fp1 (Stp.refl _ _ _) S1 fun F' H' i s1 s2 => ⟨fun d hd => ?_, fun h1 _ => ⟨_, s2.l (s1.l hl), by rw [rl.length]; exact h1⟩⟩⟩
      obtain ⟨v, hv, rv⟩ := rl.get hd
      exact ⟨⟨_, v, s2.l (s1.l hl), hv⟩, fun x H'' ⟨e1, y⟩ => ⟨F', .inl ⟨rfl, e1⟩, by
        have := y _ (s2.l (s1.l hl))
        rw [hv] at this
        cases this
        exact rv.mono s1⟩⟩
    | _ => cases hk
theorem di_tup {tg : Expr} (h : DE X W bv a fa) : DI X W bv tg a (itE itT fa) :=
  pi_imp (pi_tup h) fun σ H R t => tG.mono (tI_bnd t) fun x H1 ⟨d, e1, F1, fp1, ds, S1, r1, hk, q⟩ => by
    cases r1 with
    | tup hl rl =>
      cases hk
      refine ⟨_, rfl, ⟨_, S1.sub.t hl⟩, q _ F1 H1 fp1 (Stp.refl _ _ _) S1 fun F' H' i s1 s2 => ⟨fun d hd => ?_, fun h1 _ => ⟨_, (s1.trans s2).t hl, by rw [rl.length]; exact h1⟩⟩⟩
      obtain ⟨v, hv, rv⟩ := rl.get hd
      exact ⟨⟨_, v, (s1.trans s2).t hl, hv⟩, fun x H'' ⟨e1, y⟩ => ⟨F', .inl ⟨rfl, e1⟩, by
        have := y _ ((s1.trans s2).t hl)
        rw [hv] at this
        cases this
        exact rv.mono s1⟩⟩
    | _ => cases hk
theorem di_str {tg : Expr} (h : DE X W bv a fa) : DI X W bv tg a (itE itS fa) :=
  pi_imp (pi_str h) fun σ H R t => tG.mono (tI_bnd t) fun x H1 ⟨d, e1, F1, fp1, ds, S1, r1, hk, q⟩ => by
    cases r1 with
    | str z =>
      cases hk
      refine ⟨_, rfl, q _ F1 H1 fp1 (Stp.refl _ _ _) S1 fun F' H' i s1 s2 => ⟨fun d hd => ?_, fun h1 h2 => ?_⟩⟩
      · rw [List.getElem?_map] at hd
        obtain ⟨c, hc, rfl⟩ := Option.map_eq_some_iff.mp hd
        have hc' : z.cps[i]? = some c := by simpa using hc
        refine ⟨?_, fun x H'' ⟨e1, c', h1, h2⟩ => ⟨F', .inl ⟨rfl, e1⟩, ?_⟩⟩
        · exact (Array.getElem?_eq_some_iff.mp hc').1
        · rw [hc'] at h1
          cases h1
          subst h2
          exact .str _
      · show z.cps.size ≤ i
        simpa using h1
    | _ => cases hk
def rngDs (lo hi : Int) : List D := (List.range (hi - lo).toNat).map fun k => .int (lo + (k : Nat))
def small (i : Int) : Bool := decide (-(2 ^ 62) ≤ i) && decide (i < 2 ^ 62)
def rng1 : List D → Option (List D)
  | [.int j] => if small j then some (rngDs 0 j) else none
  | _ => none
def rng2 : List D → Option (List D)
  | [.int i, .int j] => if small i && small j then some (rngDs i j) else none
  | _ => none
theorem walks_rng {K : PySem.W.Frag} {F : Hp} {lo hi : Int} : WalksD K (Itr lo (hi - lo).toNat) F (rngDs lo hi) := fun F' H i s1 s2 => by
  have hl : (rngDs lo hi).length = (hi - lo).toNat := by simp [rngDs]
  refine ⟨fun d hd => ?_, fun h1 _ => by rw [hl] at h1; exact h1⟩
  unfold rngDs at hd
  rw [List.getElem?_map] at hd
  obtain ⟨k, hk, rfl⟩ := Option.map_eq_some_iff.mp hd
  have hk2 := List.getElem?_eq_some_iff.mp hk
  obtain ⟨h1, h2⟩ := hk2
  rw [List.getElem_range] at h2
  subst h2
  have h1' : i < (hi - lo).toNat := by
    rw [List.length_range] at h1
    exact h1
  refine ⟨h1', fun x H' ⟨e1, e2⟩ => ⟨F', .inl ⟨rfl, e1⟩, ?_⟩⟩
  subst e2
  exact .int _
def itA (g : List D → Option (List D)) (f : EM (List D)) : EM (List D) := bnd f fun ds => lif (g ds)
theorem tI_bndA {K : PySem.W.Frag} {σ : L2.St} {H : Hp} {f : EM (List D)} {k : List D → Option (List D)} {R : It → Hp → Prop} (t : tI K W bv (itA k f) σ H R) :
    tA K W bv f σ H fun x H1 => ∃ d e1 F1 fp1 ds, SS K bv e1 σ F1 H1 fp1 ∧ RpL K F1 x d ∧ k d = some ds ∧ ∀ J F2 H2 fp2, Stp F1 H1 (Pf fp1) F2 H2 (Pf fp2) → SS K bv e1 σ F2 H2 fp2 → WalksD K J F2 ds → R J H2 := by
  obtain ⟨e, F, fp, S, q⟩ := t
  refine ⟨e, F, fp, S, ?_⟩
  unfold AtG
  unfold itA bnd at q
  cases z : f e with
  | no => rw [z] at q; exact q
  | ex C fs e' => rw [z] at q; exact q
  | ok d e1 =>
    rw [z] at q
    intro x F1 H1 fp1 P1 s1 S1 r1
    obtain ⟨rfl, r1⟩ := r1
    dsimp only at q
    cases z2 : k d with
    | none => rw [z2] at q; exact q.elim
    | some ds =>
      rw [z2] at q
      exact ⟨d, e1, F1, fp1, ds, S1, r1, z2, fun J F2 H2 fp2 s2 S2 w => q J F2 H2 fp2 (s1.trans s2) S2 w⟩
theorem di_range1 {tg : Expr} {p : Pos} (hm : X.mg "range" = none) (ha : DA X W bv [a] fs) (hg : Gl X "range" := by rfl) (hs : starEach [a] X.env = [(false, eval a X.env)] := by rfl) : DI X W bv tg (.Call (.Name "range" p) [a] [] pos) (itA rng1 fs) :=
  pi_imp (pi_range1 hg hm ha hs) fun σ H R t => tG.mono (tI_bndA t) fun x H1 ⟨d, e1, F1, fp1, ds, S1, r1, hk, q⟩ => by
    unfold rng1 at hk
    split at hk
    · split at hk
      · rename_i j hj
        cases hk
        cases r1 with
        | cons r1 r =>
          cases r
          cases r1
          simp only [small, Bool.and_eq_true, decide_eq_true_eq] at hj
          refine ⟨j, rfl, hj.1, hj.2, q _ F1 H1 fp1 (Stp.refl _ _ _) S1 ?_⟩
          have := walks_rng (K := X.K) (F := F1) (lo := 0) (hi := j)
          rw [Int.sub_zero] at this
          exact this
      · cases hk
    · cases hk
theorem di_range2 {tg : Expr} {p : Pos} (hm : X.mg "range" = none) (ha : DA X W bv [a, b] fs) (hg : Gl X "range" := by rfl) (hs : starEach [a, b] X.env = [(false, eval a X.env), (false, eval b X.env)] := by rfl) (hs2 : starEach [b] X.env = [(false, eval b X.env)] := by rfl) : DI X W bv tg (.Call (.Name "range" p) [a, b] [] pos) (itA rng2 fs) :=
  pi_imp (pi_range2 hg hm ha hs hs2) fun σ H R t => tG.mono (tI_bndA t) fun x H1 ⟨d, e1, F1, fp1, ds, S1, r1, hk, q⟩ => by
    unfold rng2 at hk
    split at hk
    · split at hk
      · rename_i i j hj
        cases hk
        cases r1 with
        | cons r1 r =>
          cases r with
          | cons r2 r =>
            cases r
            cases r1
            cases r2
            simp only [small, Bool.and_eq_true, decide_eq_true_eq] at hj
            exact ⟨i, j, rfl, ⟨hj.1.1, hj.1.2, hj.2.1, hj.2.2⟩, q _ F1 H1 fp1 (Stp.refl _ _ _) S1 walks_rng⟩
      · cases hk
    · cases hk
end
end FD

/-! FD: a def's promise where no repr is under way (Around.guards is told), its body, its calls, the law's own call. -/
namespace FD
open PySem L2
open PyProof.Rows (AllBare)
section
variable (P : Program) (w : World) (K : PySem.W.Frag) (mg : Str → Option Value) (base : Heap)
/-- the def at f keeps the promise sp wherever no repr is under way; no exception leaves it -/
structure FnG (k : Nat) (f : Addr) (fd : FuncData) (ps : List Str) (sp : Sp) : Prop where
  len : ∀ vs H Q E, sp vs H Q E → vs.length = ps.length
  go : ∀ {A : Around} {outer : List PySem.Env} {s : Shared} {H : Hp} {args : Args} {us : List Value} {vs : List V} {Q : VK} {E : XK}, A.guards = some [] → Room k A →
    Env0 P w K mg base A outer s H → BindsTo s fd args (ps.zip us) → Vals vs us → sp vs H Q E → codeAny (model P w) A (.call (.ref f) args) (CR CX0 outer P w H s Q E) s
end
section
variable {P : Program} {w : World} {K : PySem.W.Frag} {mg : Str → Option Value} {base : Heap} {k : Nat} {f : Addr} {fd : FuncData} {ps : List Str} {sp : Sp}
theorem FnG.lift {j : Nat} (G : FnG P w K mg base j f fd ps sp) (h : j ≤ k) : FnG P w K mg base k f fd ps sp := ⟨G.len, fun hg hr => G.go hg (hr.mono h)⟩
/-- a def by its body -/
theorem fnG_of {x qual : Str} {st : Stmt} {N : List Str} (Fn : Fun K x qual st f fd) (Sc : FnScope N ps (defScope st)) (len : ∀ vs H Q E, sp vs H Q E → vs.length = ps.length)
    (body : ∀ (cd : Value) (A : Around) (outer : List PySem.Env) (s : Shared) (H : Hp) (vs : List V) (Q : VK) (E : XK), (A.deeper (PyProof.Rows.envOfC qual (defScope st) s.heap.objs.size f cd)).guards = some [] →
      Room k (A.deeper (PyProof.Rows.envOfC qual (defScope st) s.heap.objs.size f cd)) → sp vs H Q E →
      ∃ t, PSs (cxOf CX0 P w K mg base N qual (defScope st) f cd A outer s H E).nox (defBody st) t ∧ t { nx := fun _ H' => Q .non H', rt := Q } (L2.start N vs) H) :
    FnG P w K mg base (k + 1) f fd ps sp := by
  obtain ⟨oc, od, kV, doc, pm, an, cd, ct, sl, hfd, lk, code⟩ := Fn.ex
  refine ⟨len, fun {A outer s H args us vs Q E} hg hr en bi rv hs => ?_⟩
  have old : ∀ b o, base.get? b = some o → s.heap.get? b = some o := fun b o z => (en.bs b o z).1
  have kin : K.In s.heap := en.mod.kin.keeps old
  rw [hfd] at lk bi
  have names : ∀ y ∈ ps.zip us, (defScope st).names.lookup y.1 = some .local ∨ ((defScope st).names.lookup y.1 = some .cell ∧ ((cellsFrom (s.heap.objs.size + 1) (defScope st).names []).lookup y.1).isSome = true) := by
    intro y hy
    have hm : y.1 ∈ ps := (List.of_mem_zip (show (y.1, y.2) ∈ ps.zip us from hy)).1
    exact (Sc.par y.1 hm).imp id fun z => ⟨z, PySem.W.cellsFrom_some _ _ _ (.inl z)⟩
  refine codeAny_call_function hr.depth (kin f _ lk) rfl Sc.co Sc.gen rfl (PySem.W.codeRec_of kin code) (bi _ _ _ _ ?_)
  refine wpAny_newFunctionEnv_cells Sc.kind names fun env he s1 ic => ?_
  subst he
  refine ⟨(en.mod.nolimit.keeps old).keeps ic.toInCall.keep, codeAny_func ?_⟩
  obtain ⟨t, ht, hq⟩ := body cd A outer s H vs Q E hg (hr.deeper _) hs
  have I : Inv (cxOf CX0 P w K mg base N qual (defScope st) f cd A outer s H E) [] (L2.start N vs) H s1 := inv_start Sc hr.hd en (len vs H Q E hs) rv ic
  refine wpAny_mono (ht.nox.run [] s1 (L2.start N vs) H _ I hq) ?_ fun _ _ z => z
  intro fl s' z
  cases fl with
  | ret u =>
    obtain ⟨v, σ', H', J, r, q⟩ := z
    exact ⟨v, H', J.os, J.bare, J.base, J.hok, r, q⟩
  | next =>
    obtain ⟨σ', H', J, q⟩ := z
    exact ⟨V.non, H', J.os, J.bare, J.base, J.hok, rfl, q⟩
  | brk => exact z.elim fun _ z => z.elim fun _ z => z.2.elim
  | cont => exact z.elim fun _ z => z.elim fun _ z => z.2.elim
end
section
variable {X : Cx} {k : Nat} {f : Addr} {fd : FuncData} {ps : List Str} {sp : Sp} {E : XK} {x : Str} {p pos : Pos} {e : Expr} {es : List Expr} {t : TA}
theorem goG {pins : List (Addr × Obj)} {σ : L2.St} {H : Hp} {s : Shared} {Q : VK} {us : List Value} {vs : List V} {args : Args} (G : FnG X.prog X.w X.K X.mg X.base k f fd ps sp) (hg : X.A.guards = some []) (hr : Room k X.A) (I : Inv X pins σ H s)
    (bi : BindsTo s fd args (ps.zip us)) (rv : Vals vs us) (h : sp vs H Q E) : codeAny (model X.prog X.w) X.A (.call (.ref f) args) (callEnd (EP X pins σ Q) X.xe) s := by
  refine codeAny_mono (G.go hg hr I.env0 bi rv h) fun r s' z => ?_
  cases r with
  | error _ => exact z.elim
  | ok fl =>
    cases fl with
    | ret u => exact I.after z
    | _ => exact z.elim
/-- f(e, ..) -/
theorem pe_callG (G : FnG X.prog X.w X.K X.mg X.base k f fd ps sp) (hg : X.A.guards = some []) (hr : Room k X.A) (gl : Gl X x) (hm : X.mg x = some (.ref f)) (hk : PySem.W.keepIn X.K (.ref f) = true) (hb : Binds X.K fd ps []) (ha : PA X (e :: es) t)
    (db : (x == ("__debug__" : Str)) = false) (he : starEach (e :: es) X.env = (false, eval e X.env) :: starEach es X.env) (hp : (backTo pos (starEach es X.env)).any (·.1) = false) :
    PE X (.Call (.Name x p) (e :: es) [] pos) (fun σ H Q => t σ H fun vs H1 => sp vs H1 Q E) := by
  refine ⟨fun pins s σ H Q I h => wpAny_Call_Name_kw (ld_glob I gl hm (PySem.W.callWith_K (h₀ := X.base) I.ok.mod.kin hk ?_ he hp) db)⟩
  refine thn (ha.run pos pins s σ H _ I h) ?_
  rintro us s1 ⟨vs, H1, I1, r, q⟩
  have hl : us.length = ps.length := r.length.symm.trans (G.len _ _ _ _ q)
  have bi := hb s1 us I1.kIn (by rw [List.append_nil]; exact hl)
  rw [List.append_nil] at bi
  exact ⟨I1.kIn, wpAny_call (goG (E := E) G hg hr I1 bi r q)⟩
theorem pe_call0G (G : FnG X.prog X.w X.K X.mg X.base k f fd ps sp) (hg : X.A.guards = some []) (hr : Room k X.A) (gl : Gl X x) (hm : X.mg x = some (.ref f)) (hk : PySem.W.keepIn X.K (.ref f) = true) (hb : Binds X.K fd ps [])
    (db : (x == ("__debug__" : Str)) = false) : PE X (.Call (.Name x p) [] [] pos) (fun σ H Q => sp [] H Q E) := by
  refine ⟨fun pins s σ H Q I h => wpAny_Call_Name_kw (ld_glob I gl hm (PySem.W.callWith_K0 I.kIn hk ?_) db)⟩
  have bi := hb s [] I.kIn (by rw [List.append_nil]; exact (G.len _ _ _ _ h))
  rw [List.append_nil] at bi
  exact wpAny_call (goG (E := E) G hg hr I bi .nil h)
end

/-! ### the law's own call -/
section
variable {P : Program} {w : World} {K : PySem.W.Frag} {mg mb : Str → Option Value} {k : Nat} {fa a : Addr} {fd : FuncData} {x : Str} {sp : Sp} {s : Shared} {us : List Value} {ns : List Int}
theorem law_from {H : Hp} (kin : K.In s.heap) (gl : s.heap.Ns mainGlobals mg) (bl : s.heap.Ns builtinsNs mb) (bb : ∀ x : Str, x ≠ "__name__" → mb x = bootBuiltins x) (li : s.heap.NoLimit) (gn : s.gens = #[])
    (hr : Room k callerA) (F : ∀ base : Heap, K.In base → base.Ns mainGlobals mg → FnG P w K mg base k fa fd [x] sp) (hb : ∀ (s : Shared) (u : Value), BindsTo s fd ⟨[u], []⟩ [(x, u)])
    (hs : sp [.ref a] H (fun v _ => v = .bl true) fun _ _ _ => False) (ok : HOk P w H s.heap) (own : ∀ b o, H b = some o → (∃ ob, o = .frz ob (.lst (ns.map V.int))) ∧ b = a) (out : ∀ b o, H b = some o → K.lookup b = none)
    (nd : ∀ o, s.heap.get? a = some o → ∀ es ep, o.data ≠ .dict es ep) :
    codeAny (model P w) callerA (.call (.ref fa) ⟨[.ref a], []⟩) (fun r s' => r = .ok (.ret (.bool true)) ∧ OldK s.heap s'.heap ∧ s'.os = s.os ∧ AllBare s'.gens) s := by
  have free : ∀ {b : Addr} {o : Obj} {es : Array DictEntry} {ep : Nat}, s.heap.get? b = some o → o.data = .dict es ep → H b = none := by
    intro b o es ep h1 h2
    cases q : H b with
    | none => rfl
    | some u =>
      have := (own b u q).2
      subst this
      exact absurd h2 (nd o h1 es ep)
  have hid : ∀ {b : Addr} {m : Str → Option Value}, s.heap.Ns b m → (hidT s.heap H).Ns b m := by
    rintro b m ⟨o, es, ep, h1, h2, h3⟩
    exact ⟨o, es, ep, hidT_get h1 (free h1 h2), h2, h3⟩
  have kb : K.In (hidT s.heap H) := by
    intro b o z
    refine hidT_get (kin b o z) ?_
    cases q : H b with
    | none => rfl
    | some u => rw [out b u q] at z; cases z
  have md : Mod K mg (hidT s.heap H) := by
    obtain ⟨mc, l1, l2⟩ := li
    exact ⟨kb, hid gl, ⟨mb, hid bl, bb⟩, ⟨mc, hid l1, l2⟩⟩
  have en : Env0 P w K mg (hidT s.heap H) callerA [] s H := by
    refine ⟨rfl, md, fun b o z => of_hidT z, Nat.le_of_eq (hidT_size _ _), trivial, fun b z => ?_, ok, .of_eq gn⟩
    cases (show b ∈ ([] : List Addr) from z)
  refine codeAny_mono ((F _ kb (hid gl)).go (us := [.ref a]) (vs := [.ref a]) rfl hr en (hb s (.ref a)) (.cons rfl .nil) hs) ?_
  intro r s' z
  cases r with
  | error _ => exact z.elim
  | ok fl =>
    cases fl with
    | ret u =>
      obtain ⟨v, H', h1, h2, un, ok', rv, q⟩ := z
      rw [show v = .bl true from q] at rv
      rw [show u = Value.bool true from rv]
      refine ⟨rfl, OldK.of_keep fun b o z => ?_, h1, h2⟩
      cases q : H b with
      | none => exact un.keep b o z q (fun y => by cases (show b ∈ ([] : List Addr) from y)) (by simp)
      | some u =>
        obtain ⟨⟨ob, e1⟩, _⟩ := own b u q
        subst e1
        have y1 := (ok b _ q).1
        have y2 := (ok' b _ (un.frzs b ob _ q)).1
        rw [y1] at z
        cases z
        exact y2
    | _ => exact z.elim
theorem walk_G {l : PySem.W.OpenLaw} {n k : Nat} {q : Program} {loose : List Str} {XP : (Str → Option Value) → Heap → Prop} {YP : World → Heap → Prop} {d : DefRec} {K : Params → PySem.W.Frag} {sp : PySem.W.Frag → Sp} {x : Str} (hn : l.most = some n) (hz : n ≤ sizeLine) (hdf : d.params.defaults = []) (hr : Room k callerA)
    (hY : ∀ (w : World) (h : Heap), YP w h → (K w.params).In h)
    (F : ∀ (w : World) (mg : Str → Option Value) (fa : Addr) (h : Heap), (K w.params).In h → h.Ns mainGlobals mg → mg d.name = some (.ref fa) → ∃ fd : FuncData, (∀ (s : Shared) (u : Value), BindsTo s fd ⟨[u], []⟩ [(x, u)]) ∧
      ∀ base : Heap, (K w.params).In base → base.Ns mainGlobals mg → FnG l.prog w (K w.params) mg base k fa fd [x] (sp (K w.params)))
    (hs : ∀ (K : PySem.W.Frag) (H : Hp) (a : Addr) (ns : List Int), ns.length ≤ n → SqL K H a (ns.map V.int) → sp K [.ref a] H (fun v _ => v = .bl true) fun _ _ _ => False) :
    PySem.W.WalkO q loose XP YP l.row.toRowW d [] (fun f vs => PySem.call f vs) := by
  refine Att.attach_call hn hdf ?_
  intro w s₀ s mg mb fa o pm cd doc a vs ns G Y _ _ _ hmg ho hi hl hg
  obtain ⟨fd, hb, hF⟩ := F w mg fa s.heap (hY w _ Y) G.T.g hmg
  have rv := vals_ints hi
  have nd : ∀ o, s.heap.get? a = some o → ∀ es ep, o.data ≠ .dict es ep := by
    intro o z es ep y
    rw [ho] at z
    cases z
    cases y
  cases hk : (K w.params).lookup a with
  | some o' =>
    have e := hY w _ Y a o' hk
    rw [ho] at e
    cases e
    refine law_from (H := fun _ => none) (ns := ns) (hY w _ Y) G.T.g G.T.b G.T.builtins G.T.nolimit hg hr hF hb (hs _ _ a ns hl (.inr ⟨_, vs.toArray, _, hk, rfl, rfl, rfl, ?_, by simpa using rv⟩)) (fun b o z => ?_) (fun b o z => ?_) (fun b o z => ?_) nd
    · rw [List.size_toArray, hi.length]
      exact Nat.le_trans hl hz
    · cases (show (none : Option HO) = some o from z)
    · cases (show (none : Option HO) = some o from z)
    · cases (show (none : Option HO) = some o from z)
  | none =>
    have at_ : ∀ b o, (upd (fun _ => none) a (.frz { cls := .type "list", data := .seq vs.toArray } (.lst (ns.map V.int))) : Hp) b = some o → o = .frz { cls := .type "list", data := .seq vs.toArray } (.lst (ns.map V.int)) ∧ b = a := by
      intro b o z
      by_cases hb : b = a
      · rw [hb, upd_same] at z
        exact ⟨(Option.some.inj z).symm, hb⟩
      · rw [upd_ne hb] at z
        cases (show (none : Option HO) = some o from z)
    refine law_from (H := upd (fun _ => none) a (.frz { cls := .type "list", data := .seq vs.toArray } (.lst (ns.map V.int)))) (ns := ns) (hY w _ Y) G.T.g G.T.b G.T.builtins G.T.nolimit hg hr hF hb (hs _ _ a ns hl (.inl (.inr ⟨_, upd_same⟩))) (fun b o z => ?_) (fun b o z => ⟨⟨_, (at_ b o z).1⟩, (at_ b o z).2⟩) (fun b o z => by rw [(at_ b o z).2]; exact hk) nd
    obtain ⟨h1, h2⟩ := at_ b o z
    subst h1 h2
    exact ⟨ho, by rw [List.length_map]; exact Nat.le_trans hl hz, vs, _, rv, ho⟩
end
end FD

/-! FD: defs and their calls. -/
namespace FD
open PySem L2
inductive FOut where
  | ok (r : M) (ms : List M)
  | ex (C : Addr) (fs : List (Str × D)) (ms : List M)
  | no
def isIm : M → Bool
  | .im _ => true
  | _ => false
def args0 (n : Nat) (ms : List M) : Env := ms.map some ++ List.replicate (n - ms.length) none
/-- what the arguments are behind the call: those at B as the body leaves them, the others data -/
def backs (B : List Nat) (e' : Env) : Nat → List M → Option (List M)
  | _, [] => some []
  | i, m :: ms => if B.contains i then (match e'[i]? with
      | some (some m') => (backs B e' (i + 1) ms).map (m' :: ·)
      | _ => none) else if isIm m then (backs B e' (i + 1) ms).map (m :: ·) else (backs B e' (i + 1) ms).map (.gone :: ·)
def endF (B : List Nat) (ms : List M) (o : Out Flow) : FOut := match o with
  | .ok (.ret r) e' => match backs B e' 0 ms with
    | some ms' => .ok r ms'
    | none => .no
  | .ok .nxt e' => match backs B e' 0 ms with
    | some ms' => .ok (.im .none) ms'
    | none => .no
  | _ => .no
/-- a def of np parameters, nN names in all, B: the parameters that it may change, g: its body -/
def defF (np nN : Nat) (B : List Nat) (g : EM Flow) (ms : List M) : FOut := if ms.length = np then endF B ms (g (args0 nN ms)) else .no

def bv0 : Nat → Option V := fun _ => none
def W0 : WX := fun _ _ _ _ => False
def bvB (B : List Nat) (vs : List V) : Nat → Option V := fun i => if B.contains i then vs[i]? else none
/-- the promise of a def -/
def spF (K : PySem.W.Frag) (Fs : List M → FOut) : Sp := fun vs H Q E => ∃ ms F fp, SS K bv0 (ms.map some) (vs.map some) F H fp ∧ match Fs ms with
  | .ok r ms' => ∀ v F' H' fp' P', Stp F H (Pf fp) F' H' P' → SS K bv0 (ms'.map some) (vs.map some) F' H' fp' → (∃ fpr : List Addr, (∀ a, Pf fp' a ∨ a ∈ fpr → P' a) ∧ Own K F' H' v r fpr ∧ fpr.Nodup ∧ (∀ a ∈ fpr, ¬ Pf fp' a) ∧ ∀ a ∈ fpr, F' a = none) → Q v H'
  | .ex C fs ms' => ∀ F' H' fp' dx, Stp F H (Pf fp) F' H' (Pf fp') → SS K bv0 (ms'.map some) (vs.map some) F' H' fp' → XRep K F' fs dx → E (.ref C) dx H'
  | .no => False
theorem backs_len {B : List Nat} {e' : Env} : ∀ {i : Nat} {ms ms' : List M}, backs B e' i ms = some ms' → ms'.length = ms.length
  | _, [], _, h => by cases h; rfl
  | i, m :: ms, ms', h => by
    unfold backs at h
    split at h
    · split at h
      · obtain ⟨r, h1, rfl⟩ := Option.map_eq_some_iff.mp h
        rw [List.length_cons, List.length_cons, backs_len h1]
      · cases h
    · split at h
      · obtain ⟨r, h1, rfl⟩ := Option.map_eq_some_iff.mp h
        rw [List.length_cons, List.length_cons, backs_len h1]
      · obtain ⟨r, h1, rfl⟩ := Option.map_eq_some_iff.mp h
        rw [List.length_cons, List.length_cons, backs_len h1]
theorem backs_get {B : List Nat} {e' : Env} : ∀ {i : Nat} {ms ms' : List M} {j : Nat} {m' : M}, backs B e' i ms = some ms' → ms'[j]? = some m' → (B.contains (i + j) = true ∧ e'[i + j]? = some (some m')) ∨ (B.contains (i + j) = false ∧ ((ms[j]? = some m' ∧ isIm m' = true) ∨ m' = .gone))
  | _, [], _, _, _, h, q => by cases h; simp at q
  | i, m :: ms, ms', j, m', h, q => by
    unfold backs at h
    split at h
    · rename_i hB
      split at h
      · rename_i m1 he
        obtain ⟨r, h1, rfl⟩ := Option.map_eq_some_iff.mp h
        cases j with
        | zero =>
          simp at q
          subst q
          exact .inl ⟨hB, he⟩
        | succ j =>
          have := backs_get (j := j) (m' := m') h1 (by simpa using q)
          rw [show i + 1 + j = i + (j + 1) by omega] at this
          simpa using this
      · cases h
    · rename_i hB
      split at h
      · rename_i hm
        obtain ⟨r, h1, rfl⟩ := Option.map_eq_some_iff.mp h
        cases j with
        | zero =>
          simp at q
          subst q
          exact .inr ⟨by simpa using hB, .inl ⟨by simp, hm⟩⟩
        | succ j =>
          have := backs_get (j := j) (m' := m') h1 (by simpa using q)
          rw [show i + 1 + j = i + (j + 1) by omega] at this
          simpa using this
      · obtain ⟨r, h1, rfl⟩ := Option.map_eq_some_iff.mp h
        cases j with
        | zero =>
          simp at q
          subst q
          exact .inr ⟨by simpa using hB, .inr rfl⟩
        | succ j =>
          have := backs_get (j := j) (m' := m') h1 (by simpa using q)
          rw [show i + 1 + j = i + (j + 1) by omega] at this
          simpa using this
/-- the entry -/
theorem SS.entry {K : PySem.W.Frag} {ms : List M} {vs : List V} {F H : Hp} {fp : Nat → List Addr} {N : List Str} {B : List Nat} (S : SS K bv0 (ms.map some) (vs.map some) F H fp) (hl : vs.length ≤ N.length) : SS K (bvB B vs) (args0 N.length ms) (L2.start N vs) F H fp := by
  have hlen : ms.length = vs.length := by simpa using S.len
  have lt : ∀ {i : Nat} {x : Option M}, (args0 N.length ms)[i]? = some x → x ≠ none → i < ms.length := fun {i x} h n => by
    by_cases hi : i < ms.length
    · exact hi
    · unfold args0 at h
      rw [List.getElem?_append_right (by simpa using hi), List.getElem?_replicate] at h
      split at h
      · cases h; exact absurd rfl n
      · cases h
  have ge : ∀ {i : Nat}, i < ms.length → (args0 N.length ms)[i]? = (ms.map some)[i]? := fun {i} hi => by
    unfold args0
    rw [List.getElem?_append_left (by simpa using hi)]
  have gs : ∀ {i : Nat}, i < vs.length → (L2.start N vs)[i]? = (vs.map some)[i]? := fun {i} hi => by
    unfold L2.start
    rw [List.getElem?_append_left (by simpa using hi)]
  refine ⟨S.sub, fun i m h => ?_, fun i a h => ?_, S.nd, S.dj, S.fr, fun i v h => ?_, ?_⟩
  · have hi := lt h (by simp)
    rw [ge hi] at h
    rw [gs (by omega)]
    exact S.own i m h
  · obtain ⟨m, q⟩ := S.nil i a h
    have hi : i < ms.length := by
      have := (List.getElem?_eq_some_iff.mp q).1
      simpa using this
    rw [ge hi]
    exact ⟨m, q⟩
  · unfold bvB at h
    split at h
    · have hi := (List.getElem?_eq_some_iff.mp h).1
      rw [gs hi, List.getElem?_map, h]
      rfl
    · cases h
  · unfold args0 L2.start
    simp only [List.length_append, List.length_map, List.length_replicate]
    omega
def fpB (B : List Nat) (n : Nat) (fp : Nat → List Addr) : Nat → List Addr := fun i => if B.contains i && decide (i < n) then fp i else []
theorem mem_fpB {B : List Nat} {n : Nat} {fp : Nat → List Addr} {i : Nat} {a : Addr} (h : a ∈ fpB B n fp i) : a ∈ fp i ∧ B.contains i = true ∧ i < n := by
  unfold fpB at h
  split at h
  · rename_i hc
    rw [Bool.and_eq_true, decide_eq_true_eq] at hc
    exact ⟨h, hc.1, hc.2⟩
  · cases h
theorem fpB_in {B : List Nat} {n : Nat} {fp : Nat → List Addr} {i : Nat} (h1 : B.contains i = true) (h2 : i < n) : fpB B n fp i = fp i := by
  unfold fpB
  rw [if_pos (by rw [h1, decide_eq_true h2]; rfl)]
theorem fpB_out {B : List Nat} {n : Nat} {fp : Nat → List Addr} {i : Nat} (h1 : B.contains i = false) : fpB B n fp i = [] := by
  unfold fpB
  rw [if_neg (by rw [h1]; exact Bool.false_ne_true)]
/-- the end: what the caller sees of the arguments -/
theorem SS.leave {K : PySem.W.Frag} {ms ms' : List M} {vs : List V} {F H F' H' : Hp} {fp fp' : Nat → List Addr} {N : List Str} {B : List Nat} {e' : Env} {σ' : L2.St} (S : SS K bv0 (ms.map some) (vs.map some) F H fp) (s : Sub F F') (S' : SS K (bvB B vs) e' σ' F' H' fp') (hb : backs B e' 0 ms = some ms') :
    SS K bv0 (ms'.map some) (vs.map some) F' H' (fpB B ms.length fp') := by
  have hlen : ms.length = vs.length := by simpa using S.len
  have hl' := backs_len hb
  refine ⟨S'.sub, fun i m h => ?_, fun i a h => ?_, fun i => ?_, fun i j a h1 h2 => S'.dj i j a (mem_fpB h1).1 (mem_fpB h2).1, fun i a h => S'.fr i a (mem_fpB h).1, fun i v h => (by cases h), by rw [List.length_map, List.length_map, hl', hlen]⟩
  · rw [List.getElem?_map] at h
    obtain ⟨m1, h1, h2⟩ := Option.map_eq_some_iff.mp h
    cases h2
    have hi : i < ms.length := by
      have := (List.getElem?_eq_some_iff.mp h1).1
      omega
    have hv : (vs.map some)[i]? = some (some (vs[i]'(by omega))) := by
      rw [List.getElem?_map, List.getElem?_eq_getElem (by omega)]
      rfl
    rcases backs_get hb h1 with ⟨hB, q⟩ | ⟨hB, ⟨q, hm⟩ | q⟩
    · rw [Nat.zero_add] at hB q
      obtain ⟨v, q1, o⟩ := S'.own i m q
      have q2 := S'.bor i (vs[i]'(by omega)) (by unfold bvB; rw [if_pos hB]; exact List.getElem?_eq_getElem _)
      rw [q1] at q2
      cases q2
      refine ⟨_, hv, ?_⟩
      rw [fpB_in hB hi]
      exact o
    · rw [Nat.zero_add] at hB
      obtain ⟨v, q1, o⟩ := S.own i m (by rw [List.getElem?_map, q]; rfl)
      rw [fpB_out hB]
      refine ⟨v, q1, ?_⟩
      cases m with
      | im d =>
        generalize fp i = l at o
        cases o with
        | im r => exact .im (r.mono s)
      | _ => cases hm
    · rw [Nat.zero_add] at hB
      subst q
      rw [fpB_out hB]
      exact ⟨_, hv, .gone⟩
  · have hi := (mem_fpB h).2.2
    exact ⟨ms'[i]'(by omega), by rw [List.getElem?_map, List.getElem?_eq_getElem (by omega)]; rfl⟩
  · unfold fpB
    split
    · exact S'.nd i
    · exact List.nodup_nil
section
variable {P : Program} {w : World} {K : PySem.W.Frag} {mg : Str → Option Value} {base : Heap}
theorem defF_len {np nN : Nat} {B : List Nat} {g : EM Flow} {ms : List M} (h : defF np nN B g ms ≠ .no) : ms.length = np := by
  unfold defF at h
  split at h
  · assumption
  · exact absurd rfl h
theorem spF_len {Fs : List M → FOut} {np : Nat} (hF : ∀ ms, Fs ms ≠ .no → ms.length = np) : ∀ vs H Q E, spF K Fs vs H Q E → vs.length = np := fun vs H Q E ⟨ms, F, fp, S, q⟩ => by
  have hlen : ms.length = vs.length := by simpa using S.len
  rw [← hlen]
  refine hF ms fun z => ?_
  rw [z] at q
  exact q
/-- a def without exceptions -/
theorem fn_F {x qual : Str} {st : Stmt} {f : Addr} {fd : FuncData} {N ps : List Str} {k : Nat} {B : List Nat} {g : EM Flow} (Fn : Fun K x qual st f fd) (Sc : FnScope N ps (defScope st))
    (hbody : ∀ (cdv : Value) (A : Around) (outer : List PySem.Env) (s : Shared) (H : Hp) (vs : List V) (E : XK), (A.deeper (PyProof.Rows.envOfC qual (defScope st) s.heap.objs.size f cdv)).guards = some [] →
      Room k (A.deeper (PyProof.Rows.envOfC qual (defScope st) s.heap.objs.size f cdv)) →
      DSs (cxOf CX0 P w K mg base N qual (defScope st) f cdv A outer s H E).nox W0 (bvB B vs) (defBody st) g) :
    FnG P w K mg base (k + 1) f fd ps (spF K (defF ps.length N.length B g)) := by
  have hpl : ps.length ≤ N.length := by have := congrArg List.length Sc.pre; rw [List.length_take] at this; omega
  refine fnG_of Fn Sc (spF_len fun ms h => defF_len h) fun cdv A outer s H vs Q E hg hr h => ?_
  refine ⟨_, hbody cdv A outer s H vs E hg hr, ?_⟩
  obtain ⟨ms, F, fp, S, q⟩ := h
  have hlen : ms.length = vs.length := by simpa using S.len
  unfold defF at q
  by_cases hn : ms.length = ps.length
  · rw [if_pos hn] at q
    refine ⟨args0 N.length ms, F, fp, S.entry (by omega), ?_⟩
    show OutS _ _ _ (g (args0 N.length ms)) _ _ _ _
    cases z : g (args0 N.length ms) with
    | no => rw [z] at q; exact q
    | ex C fs e' => rw [z] at q; exact q.elim
    | ok fl e' =>
      rw [z] at q
      have fin : ∀ (r : M) (ms' : List M), backs B e' 0 ms = some ms' → (∀ v F' H' fp' P', Stp F H (Pf fp) F' H' P' → SS K bv0 (ms'.map some) (vs.map some) F' H' fp' → (∃ fpr : List Addr, (∀ a, Pf fp' a ∨ a ∈ fpr → P' a) ∧ Own K F' H' v r fpr ∧ fpr.Nodup ∧ (∀ a ∈ fpr, ¬ Pf fp' a) ∧ ∀ a ∈ fpr, F' a = none) → Q v H') →
          ∀ v σ' F' H' fp' P', Stp F H (Pf fp) F' H' P' → SS K (bvB B vs) e' σ' F' H' fp' → rM K F' H' fp' P' v r → Q v H' := fun r ms' hb q v σ' F' H' fp' P' s' S' ⟨fpr, hP, o, nd, dj, fr⟩ => by
        have sub : ∀ a, Pf (fpB B ms.length fp') a → Pf fp' a := fun a ⟨i, hi⟩ => ⟨i, (mem_fpB hi).1⟩
        refine q v F' H' _ P' s' (S.leave (N := N) s'.ext S' hb) ⟨fpr, fun a ha => ?_, o, nd, fun a ha z => dj a ha (sub a z), fr⟩
        rw [hP]
        rcases ha with ha | ha
        · exact .inl (sub a ha)
        · exact .inr ha
      cases fl with
      | nxt =>
        unfold endF at q
        dsimp only at q
        cases hb : backs B e' 0 ms with
        | none => rw [hb] at q; exact q.elim
        | some ms' =>
          rw [hb] at q
          exact fun σ' F' H' fp' s' S' => fin (.im .none) ms' hb q .non σ' F' H' fp' (Pf fp') s' S' (rM_im .non)
      | ret r =>
        unfold endF at q
        dsimp only at q
        cases hb : backs B e' 0 ms with
        | none => rw [hb] at q; exact q.elim
        | some ms' =>
          rw [hb] at q
          exact fin r ms' hb q
      | brk => exact q.elim
      | cnt => exact q.elim
  · rw [if_neg hn] at q
    exact q.elim
end

/-! ### calls -/
/-- an argument: data, or a slot whose thing the callee may change -/
inductive AR where
  | d (d : D)
  | b (s : Nat)
def rAR (K : PySem.W.Frag) (σ : L2.St) : Hp → List V → List AR → Prop
  | _, [], [] => True
  | F, x :: xs, .d d :: as => Rp K F x d ∧ rAR K σ F xs as
  | F, x :: xs, .b s :: as => σ[s]? = some (some x) ∧ rAR K σ F xs as
  | _, _, _ => False
def tR (K : PySem.W.Frag) (W : WX) (bv : Nat → Option V) (f : EM (List AR)) : TA := fun σ H Q => tG K W bv (smp (rAR K σ)) f σ H Q
abbrev DR (X : Cx) (W : WX) (bv : Nat → Option V) (es : List Expr) (f : EM (List AR)) : Prop := PA X es (tR X.K W bv f)
def arN : EM (List AR) := ret []
def arD (f : EM D) (g : EM (List AR)) : EM (List AR) := bnd f fun d => bnd g fun as => ret (.d d :: as)
def arB (s : Nat) (g : EM (List AR)) : EM (List AR) := fun e => match e[s]? with
  | some (some _) => bnd g (fun as => ret (.b s :: as)) e
  | _ => .no
section
variable {X : Cx} {W : WX} {bv : Nat → Option V} {pos : Pos} {a : Expr} {es : List Expr} {fa : EM D} {fr : EM (List AR)}
theorem dr_nil : DR X W bv [] arN := pa_imp pa_nil fun σ H Q ⟨e, F, fp, S, q⟩ => AtG.here (r := rAR X.K σ) S q trivial
theorem dr_d (h : DE X W bv a fa) (hr : DR X W bv es fr) (hs : starEach (a :: es) X.env = (false, eval a X.env) :: starEach es X.env := by rfl) : DR X W bv (a :: es) (arD fa fr) :=
  pa_imp (pa_cons h hr hs) fun σ H Q t => by
    refine tG.mono (tG.bnd (r := rD X.K) t) fun x H1 ⟨d, e1, F1, fp1, S1, r1, q1⟩ => ?_
    refine tG.mono (AtG.bnd' (r := rAR X.K σ) S1 q1) fun xs H2 ⟨as, e2, F2, fp2, s2, S2, r2, q2⟩ => ?_
    exact AtG.here (r := rAR X.K σ) S2 q2 ⟨Rp.mono s2 r1, r2⟩
theorem dr_b (s : Nat) {x : Str} (hr : DR X W bv es fr) (hN : X.N[s]? = some x := by rfl) (hv : Vis X.env.scope x := by first | exact Or.inl rfl | exact Or.inr (Or.inl rfl) | exact Or.inr (Or.inr rfl)) (hd : (x == ("__debug__" : Str)) = false := by decide)
    (hcd : (x == ("__classdict__" : Str)) = false := by decide) (hs : starEach (.Name x pos :: es) X.env = (false, eval (.Name x pos) X.env) :: starEach es X.env := by rfl) : DR X W bv (.Name x pos :: es) (arB s fr) :=
  pa_imp (pa_cons (pe_var hN hv hd hcd) hr hs) fun σ H Q t => by
    obtain ⟨e, F, fp, S, q⟩ := t
    cases he : e[s]? with
    | none => unfold AtG arB at q; rw [he] at q; exact q.elim
    | some o =>
      cases o with
      | none => unfold AtG arB at q; rw [he] at q; exact q.elim
      | some m =>
        obtain ⟨v, hv, _⟩ := S.own s m he
        refine ⟨v, hv, ?_⟩
        have q : AtG X.K W bv (smp (rAR X.K σ)) (bnd fr fun as => ret (.b s :: as)) e σ F H fp Q := by
          unfold AtG arB at q
          rw [he] at q
          exact q
        refine tG.mono (AtG.bnd' (r := rAR X.K σ) S q) fun xs H2 ⟨as, e2, F2, fp2, s2, S2, r2, q2⟩ => ?_
        exact AtG.here (r := rAR X.K σ) S2 q2 ⟨hv, r2⟩
def slotsOf : List AR → List Nat
  | [] => []
  | .d _ :: r => slotsOf r
  | .b s :: r => s :: slotsOf r
def argM (e : Env) : List AR → Option (List M)
  | [] => some []
  | .d d :: r => (argM e r).map (.im d :: ·)
  | .b s :: r => match e[s]? with
    | some (some m) => (argM e r).map (m :: ·)
    | _ => none
def putB (e : Env) : List AR → List M → Env
  | .b s :: r, m :: ms => (putB e r ms).set s (some m)
  | .d _ :: r, _ :: ms => putB e r ms
  | _, _ => e
/-- a call -/
def callM (Fs : List M → FOut) (fr : EM (List AR)) : EM M := bnd fr fun as e => if (slotsOf as).Nodup then (match argM e as with
  | none => .no
  | some ms => match Fs ms with
    | .ok r ms' => if ms'.length = ms.length then .ok r (putB e as ms') else .no
    | _ => .no) else .no
def callD (Fs : List M → FOut) (fr : EM (List AR)) : EM D := bnd (callM Fs fr) fun m => lif m.toD
theorem putB_len {e : Env} : ∀ {as : List AR} {ms : List M}, (putB e as ms).length = e.length
  | [], _ => rfl
  | .d _ :: _, [] => rfl
  | .b _ :: _, [] => rfl
  | .d _ :: r, _ :: ms => putB_len (as := r)
  | .b s :: r, m :: ms => by
    show ((putB e r ms).set s (some m)).length = _
    rw [List.length_set, putB_len (as := r)]
theorem putB_out {e : Env} {i : Nat} : ∀ {as : List AR} {ms : List M}, i ∉ slotsOf as → (putB e as ms)[i]? = e[i]?
  | [], _, _ => rfl
  | .d _ :: _, [], _ => rfl
  | .b _ :: _, [], _ => rfl
  | .d _ :: r, _ :: ms, h => putB_out (as := r) h
  | .b s :: r, m :: ms, h => by
    show ((putB e r ms).set s (some m))[i]? = _
    simp only [slotsOf, List.mem_cons, not_or] at h
    rw [List.getElem?_set_ne (Ne.symm h.1), putB_out (as := r) h.2]
theorem slots_ix {i : Nat} : ∀ {as : List AR}, i ∈ slotsOf as → ∃ j : Nat, as[j]? = some (AR.b i)
  | [], h => by cases h
  | .d _ :: r, h => by
    obtain ⟨j, q⟩ := slots_ix (as := r) h
    exact ⟨j + 1, by simpa using q⟩
  | .b s :: r, h => by
    rcases List.mem_cons.mp h with rfl | h
    · exact ⟨0, rfl⟩
    · obtain ⟨j, q⟩ := slots_ix (as := r) h
      exact ⟨j + 1, by simpa using q⟩
theorem ix_slots {i : Nat} : ∀ {as : List AR} {j : Nat}, as[j]? = some (.b i) → i ∈ slotsOf as
  | [], _, h => by simp at h
  | .d _ :: r, 0, h => by simp at h
  | .b s :: r, 0, h => by
    simp at h
    subst h
    exact List.mem_cons_self
  | .d _ :: r, j + 1, h => ix_slots (as := r) (j := j) (by simpa using h)
  | .b s :: r, j + 1, h => List.mem_cons_of_mem _ (ix_slots (as := r) (j := j) (by simpa using h))
theorem slots_inj {i : Nat} : ∀ {as : List AR} {j k : Nat}, (slotsOf as).Nodup → as[j]? = some (.b i) → as[k]? = some (.b i) → j = k
  | [], _, _, _, h, _ => by simp at h
  | .d _ :: r, 0, _, _, h, _ => by simp at h
  | .d _ :: r, _ + 1, 0, _, _, h => by simp at h
  | .d _ :: r, j + 1, k + 1, nd, h1, h2 => congrArg (· + 1) (slots_inj (as := r) (j := j) (k := k) nd (by simpa using h1) (by simpa using h2))
  | .b s :: r, 0, 0, _, _, _ => rfl
  | .b s :: r, 0, k + 1, nd, h1, h2 => by
    simp at h1
    subst h1
    exact absurd (ix_slots (as := r) (j := k) (by simpa using h2)) (List.nodup_cons.mp nd).1
  | .b s :: r, j + 1, 0, nd, h1, h2 => by
    simp at h2
    subst h2
    exact absurd (ix_slots (as := r) (j := j) (by simpa using h1)) (List.nodup_cons.mp nd).1
  | .b s :: r, j + 1, k + 1, nd, h1, h2 => congrArg (· + 1) (slots_inj (as := r) (j := j) (k := k) (List.nodup_cons.mp nd).2 (by simpa using h1) (by simpa using h2))
theorem putB_in {e : Env} {i : Nat} (hi : i < e.length) : ∀ {as : List AR} {ms : List M} {j : Nat} {m : M}, (slotsOf as).Nodup → as[j]? = some (.b i) → ms[j]? = some m → (putB e as ms)[i]? = some (some m)
  | [], _, _, _, _, h, _ => by simp at h
  | _ :: _, [], _, _, _, _, h => by simp at h
  | .d _ :: r, _ :: ms, 0, _, _, h, _ => by simp at h
  | .d _ :: r, _ :: ms, j + 1, m, nd, h1, h2 => putB_in hi (as := r) (j := j) nd (by simpa using h1) (by simpa using h2)
  | .b s :: r, m' :: ms, 0, m, nd, h1, h2 => by
    simp at h1 h2
    subst h1 h2
    show ((putB e r ms).set s (some m'))[s]? = _
    rw [List.getElem?_set_self (by rw [putB_len]; exact hi)]
  | .b s :: r, m' :: ms, j + 1, m, nd, h1, h2 => by
    have ne : s ≠ i := fun q => by
      subst q
      exact (List.nodup_cons.mp nd).1 (ix_slots (as := r) (j := j) (by simpa using h1))
    show ((putB e r ms).set s (some m'))[i]? = _
    rw [List.getElem?_set_ne ne]
    exact putB_in hi (as := r) (j := j) (List.nodup_cons.mp nd).2 (by simpa using h1) (by simpa using h2)
theorem argM_get {e : Env} : ∀ {as : List AR} {ms : List M} {j : Nat}, argM e as = some ms → (∀ d, as[j]? = some (.d d) → ms[j]? = some (.im d)) ∧ (∀ s, as[j]? = some (.b s) → ∃ m, e[s]? = some (some m) ∧ ms[j]? = some m)
  | [], _, _, _ => ⟨fun d q => by simp at q, fun s q => by simp at q⟩
  | .d d0 :: r, ms, j, h => by
    obtain ⟨ms', h1, rfl⟩ := Option.map_eq_some_iff.mp h
    cases j with
    | zero => exact ⟨fun d q => by simp at q ⊢; exact q, fun s q => by simp at q⟩
    | succ j =>
      have := argM_get (j := j) h1
      simpa using this
  | .b s0 :: r, ms, j, h => by
    unfold argM at h
    split at h
    · rename_i m0 he
      obtain ⟨ms', h1, rfl⟩ := Option.map_eq_some_iff.mp h
      cases j with
      | zero => exact ⟨fun d q => by simp at q, fun s q => by simp at q; subst q; exact ⟨m0, he, by simp⟩⟩
      | succ j =>
        have := argM_get (j := j) h1
        simpa using this
    · cases h
theorem argM_len {e : Env} : ∀ {as : List AR} {ms : List M}, argM e as = some ms → ms.length = as.length
  | [], _, h => by cases h; rfl
  | .d d0 :: r, ms, h => by
    obtain ⟨ms', h1, rfl⟩ := Option.map_eq_some_iff.mp h
    rw [List.length_cons, List.length_cons, argM_len h1]
  | .b s0 :: r, ms, h => by
    unfold argM at h
    split at h
    · obtain ⟨ms', h1, rfl⟩ := Option.map_eq_some_iff.mp h
      rw [List.length_cons, List.length_cons, argM_len h1]
    · cases h
theorem rAR_get {K : PySem.W.Frag} {σ : L2.St} {F : Hp} : ∀ {xs : List V} {as : List AR} {j : Nat}, rAR K σ F xs as → (∀ d, as[j]? = some (.d d) → ∃ v, xs[j]? = some v ∧ Rp K F v d) ∧ (∀ s, as[j]? = some (.b s) → ∃ v, xs[j]? = some v ∧ σ[s]? = some (some v))
  | [], [], _, _ => ⟨fun d q => by simp at q, fun s q => by simp at q⟩
  | x :: xs, .d d0 :: as, j, h => by
    cases j with
    | zero => exact ⟨fun d q => by simp at q; subst q; exact ⟨x, rfl, h.1⟩, fun s q => by simp at q⟩
    | succ j =>
      have := rAR_get (j := j) h.2
      simpa using this
  | x :: xs, .b s0 :: as, j, h => by
    cases j with
    | zero => exact ⟨fun d q => by simp at q, fun s q => by simp at q; subst q; exact ⟨x, rfl, h.1⟩⟩
    | succ j =>
      have := rAR_get (j := j) h.2
      simpa using this
  | [], _ :: _, _, h => h.elim
  | _ :: _, [], _, h => h.elim
theorem rAR_len {K : PySem.W.Frag} {σ : L2.St} {F : Hp} : ∀ {xs : List V} {as : List AR}, rAR K σ F xs as → xs.length = as.length
  | [], [], _ => rfl
  | x :: xs, .d d0 :: as, h => by rw [List.length_cons, List.length_cons, rAR_len h.2]
  | x :: xs, .b s0 :: as, h => by rw [List.length_cons, List.length_cons, rAR_len h.2]
  | [], _ :: _, h => h.elim
  | _ :: _, [], h => h.elim
/-- the footprints of the arguments -/
def fpA (fp : Nat → List Addr) (as : List AR) : Nat → List Addr := fun j => match as[j]? with
  | some (.b s) => fp s
  | _ => []
theorem mem_fpA {fp : Nat → List Addr} {as : List AR} {j : Nat} {a : Addr} (h : a ∈ fpA fp as j) : ∃ s, as[j]? = some (.b s) ∧ a ∈ fp s := by
  unfold fpA at h
  split at h
  · exact ⟨_, by assumption, h⟩
  · cases h
theorem SS.args {K : PySem.W.Frag} {e : Env} {σ : L2.St} {F H : Hp} {fp : Nat → List Addr} {as : List AR} {ms : List M} {vs : List V} (S : SS K bv e σ F H fp) (nd : (slotsOf as).Nodup) (ha : argM e as = some ms) (r : rAR K σ F vs as) :
    SS K bv0 (ms.map some) (vs.map some) F H (fpA fp as) := by
  have h1 := argM_len ha
  have h2 := rAR_len r
  refine ⟨S.sub, fun j m h => ?_, fun j a h => ?_, fun j => ?_, fun j k a g1 g2 => ?_, fun j a h => ?_, fun i v h => (by cases h), by rw [List.length_map, List.length_map, h1, h2]⟩
  · rw [List.getElem?_map] at h
    obtain ⟨m1, hm, q⟩ := Option.map_eq_some_iff.mp h
    cases q
    have hj : j < as.length := by
      have := (List.getElem?_eq_some_iff.mp hm).1
      omega
    cases q : as[j] with
    | d d =>
      have q' : as[j]? = some (.d d) := by rw [List.getElem?_eq_getElem hj, q]
      have e1 := (argM_get (j := j) ha).1 d q'
      rw [hm] at e1
      cases e1
      obtain ⟨v, g1, g2⟩ := (rAR_get (j := j) r).1 d q'
      refine ⟨v, by rw [List.getElem?_map, g1]; rfl, ?_⟩
      unfold fpA
      rw [q']
      exact .im g2
    | b s =>
      have q' : as[j]? = some (.b s) := by rw [List.getElem?_eq_getElem hj, q]
      obtain ⟨m2, e1, e2⟩ := (argM_get (j := j) ha).2 s q'
      rw [hm] at e2
      cases e2
      obtain ⟨v, g1, g2⟩ := (rAR_get (j := j) r).2 s q'
      obtain ⟨u, g3, o⟩ := S.own s m e1
      rw [g2] at g3
      cases g3
      refine ⟨v, by rw [List.getElem?_map, g1]; rfl, ?_⟩
      unfold fpA
      rw [q']
      exact o
  · obtain ⟨s, q, _⟩ := mem_fpA h
    obtain ⟨m, _, q2⟩ := (argM_get (j := j) ha).2 s q
    exact ⟨m, by rw [List.getElem?_map, q2]; rfl⟩
  · unfold fpA
    split
    · exact S.nd _
    · exact List.nodup_nil
  · obtain ⟨s, q1, w1⟩ := mem_fpA g1
    obtain ⟨s', q2, w2⟩ := mem_fpA g2
    have := S.dj s s' a w1 w2
    subst this
    exact slots_inj nd q1 q2
  · obtain ⟨s, _, q⟩ := mem_fpA h
    exact S.fr s a q
open Classical in
/-- the footprints behind a call -/
noncomputable def fpC (fp : Nat → List Addr) (as : List AR) (fp' : Nat → List Addr) : Nat → List Addr := fun i => if h : ∃ j : Nat, as[j]? = some (AR.b i) then fp' h.choose else fp i
theorem fpC_in {fp fp' : Nat → List Addr} {as : List AR} {i j : Nat} (nd : (slotsOf as).Nodup) (h : as[j]? = some (.b i)) : fpC fp as fp' i = fp' j := by
  unfold fpC
  have hx : ∃ j : Nat, as[j]? = some (AR.b i) := ⟨j, h⟩
  rw [dif_pos hx, slots_inj nd hx.choose_spec h]
theorem fpC_out {fp fp' : Nat → List Addr} {as : List AR} {i : Nat} (h : i ∉ slotsOf as) : fpC fp as fp' i = fp i := by
  unfold fpC
  rw [dif_neg fun ⟨j, q⟩ => h (ix_slots q)]
/-- behind a call -/
theorem SS.after {K : PySem.W.Frag} {e : Env} {σ : L2.St} {F H F' H' : Hp} {fp fp' : Nat → List Addr} {as : List AR} {ms ms' : List M} {vs : List V} {P' : Addr → Prop} {fpr : List Addr} (S : SS K bv e σ F H fp) (nd : (slotsOf as).Nodup) (ha : argM e as = some ms) (r : rAR K σ F vs as)
    (hl : ms'.length = ms.length) (s : Stp F H (Pf (fpA fp as)) F' H' P') (S' : SS K bv0 (ms'.map some) (vs.map some) F' H' fp') (hP : ∀ a, Pf fp' a ∨ a ∈ fpr → P' a) (dj : ∀ a ∈ fpr, ¬ Pf fp' a) :
    SS K bv (putB e as ms') σ F' H' (fpC fp as fp') ∧ Stp F H (Pf fp) F' H' (fun a => Pf (fpC fp as fp') a ∨ a ∈ fpr) ∧ ∀ a ∈ fpr, ¬ Pf (fpC fp as fp') a := by
  have hal := argM_len ha
  have sub : ∀ a, Pf (fpA fp as) a → Pf fp a := fun a ⟨j, h⟩ => by
    obtain ⟨s, _, q⟩ := mem_fpA h
    exact ⟨s, q⟩
  have off : ∀ i a, i ∉ slotsOf as → a ∈ fp i → ¬ Pf (fpA fp as) a := fun i a hi h ⟨j, h'⟩ => by
    obtain ⟨s, q1, q2⟩ := mem_fpA h'
    have := S.dj i s a h q2
    subst this
    exact hi (ix_slots q1)
  have offP : ∀ i a, i ∉ slotsOf as → a ∈ fp i → ¬ P' a := fun i a hi h p => by
    rcases s.newP a p with z | z
    · exact off i a hi h z
    · obtain ⟨o, q⟩ := S.live h
      rw [q] at z
      cases z
  refine ⟨⟨S'.sub, fun i m h => ?_, fun i a h => ?_, fun i => ?_, fun i j a h1 h2 => ?_, fun i a h => ?_, S.bor, by rw [putB_len]; exact S.len⟩, ⟨s.ext, fun a o h n => s.keep a o h fun z => n (sub a z), s.live, fun a h => ?_, fun a h => ?_⟩, fun a ha' ⟨i, h⟩ => ?_⟩
  · by_cases hi : i ∈ slotsOf as
    · obtain ⟨j, hj⟩ := slots_ix hi
      obtain ⟨m0, e1, e2⟩ := (argM_get (j := j) ha).2 i hj
      have hji : j < ms'.length := by
        have := (List.getElem?_eq_some_iff.mp e2).1
        omega
      have e3 := putB_in (ms := ms') (List.getElem?_eq_some_iff.mp e1).1 nd hj (List.getElem?_eq_getElem hji)
      rw [e3] at h
      cases h
      obtain ⟨v, g1, o⟩ := S'.own j ms'[j] (by rw [List.getElem?_map, List.getElem?_eq_getElem hji]; rfl)
      obtain ⟨u, g2, g3⟩ := (rAR_get (j := j) r).2 i hj
      rw [List.getElem?_map, g2] at g1
      cases g1
      rw [fpC_in nd hj]
      exact ⟨_, g3, o⟩
    · rw [putB_out hi] at h
      obtain ⟨v, g1, o⟩ := S.own i m h
      rw [fpC_out hi]
      exact ⟨v, g1, o.mono s.ext fun a ha' u hu => s.keep a u hu (off i a hi ha') (.inl (S.fr i a ha'))⟩
  · by_cases hi : i ∈ slotsOf as
    · obtain ⟨j, hj⟩ := slots_ix hi
      obtain ⟨m0, e1, e2⟩ := (argM_get (j := j) ha).2 i hj
      have hji : j < ms'.length := by
        have := (List.getElem?_eq_some_iff.mp e2).1
        omega
      exact ⟨_, putB_in (ms := ms') (List.getElem?_eq_some_iff.mp e1).1 nd hj (List.getElem?_eq_getElem hji)⟩
    · rw [fpC_out hi] at h
      rw [putB_out hi]
      exact S.nil i a h
  · by_cases hi : i ∈ slotsOf as
    · obtain ⟨j, hj⟩ := slots_ix hi
      rw [fpC_in nd hj]
      exact S'.nd j
    · rw [fpC_out hi]
      exact S.nd i
  · by_cases hi : i ∈ slotsOf as
    · obtain ⟨k, hk⟩ := slots_ix hi
      rw [fpC_in nd hk] at h1
      by_cases hj : j ∈ slotsOf as
      · obtain ⟨k', hk'⟩ := slots_ix hj
        rw [fpC_in nd hk'] at h2
        have := S'.dj k k' a h1 h2
        subst this
        rw [hk] at hk'
        cases hk'
        rfl
      · rw [fpC_out hj] at h2
        exact absurd (hP a (.inl ⟨k, h1⟩)) (offP j a hj h2)
    · rw [fpC_out hi] at h1
      by_cases hj : j ∈ slotsOf as
      · obtain ⟨k', hk'⟩ := slots_ix hj
        rw [fpC_in nd hk'] at h2
        exact absurd (hP a (.inl ⟨k', h2⟩)) (offP i a hi h1)
      · rw [fpC_out hj] at h2
        exact S.dj i j a h1 h2
  · by_cases hi : i ∈ slotsOf as
    · obtain ⟨j, hj⟩ := slots_ix hi
      rw [fpC_in nd hj] at h
      exact S'.fr j a h
    · rw [fpC_out hi] at h
      cases q : F' a with
      | none => rfl
      | some o =>
        rcases s.newF a (by rw [q]; simp) with z | z | z
        · exact absurd (S.fr i a h) z
        · exact absurd z (off i a hi h)
        · obtain ⟨o', q'⟩ := S.live h
          obtain ⟨vs', e'⟩ := z _ q'
          rw [e'] at q'
          exact absurd q' (S.ntup h vs')
  · rcases s.newF a h with z | z | z
    · exact .inl z
    · exact .inr (.inl (sub a z))
    · exact .inr (.inr z)
  · have fromP : P' a → Pf fp a ∨ H a = none := fun p => (s.newP a p).imp (sub a) id
    rcases h with ⟨i, h⟩ | h
    · by_cases hi : i ∈ slotsOf as
      · obtain ⟨j, hj⟩ := slots_ix hi
        rw [fpC_in nd hj] at h
        exact fromP (hP a (.inl ⟨j, h⟩))
      · rw [fpC_out hi] at h
        exact .inl ⟨i, h⟩
    · exact fromP (hP a (.inr h))
  · by_cases hi : i ∈ slotsOf as
    · obtain ⟨j, hj⟩ := slots_ix hi
      rw [fpC_in nd hj] at h
      exact dj a ha' ⟨j, h⟩
    · rw [fpC_out hi] at h
      exact offP i a hi h (hP a (.inr ha'))
/-- what is done with the arguments -/
def callAt (Fs : List M → FOut) (as : List AR) : EM M := fun e => if (slotsOf as).Nodup then (match argM e as with
  | none => .no
  | some ms => match Fs ms with
    | .ok r ms' => if ms'.length = ms.length then .ok r (putB e as ms') else .no
    | _ => .no) else .no
theorem call_at {K : PySem.W.Frag} {Fs : List M → FOut} {σ : L2.St} {F1 H1 : Hp} {fp1 : Nat → List Addr} {e1 : Env} {Q : VK} {as : List AR} {vs : List V} (S1 : SS K bv e1 σ F1 H1 fp1) (r1 : rAR K σ F1 vs as) (q1 : AtG K W bv (rM K) (callAt Fs as) e1 σ F1 H1 fp1 Q) : spF K Fs vs H1 Q E0 := by
  unfold AtG callAt at q1
  by_cases nd : (slotsOf as).Nodup
  · rw [if_pos nd] at q1
    cases ha : argM e1 as with
    | none => rw [ha] at q1; exact q1.elim
    | some ms =>
      rw [ha] at q1
      dsimp only at q1
      refine ⟨ms, F1, fpA fp1 as, S1.args nd ha r1, ?_⟩
      cases hF : Fs ms with
      | no => rw [hF] at q1; exact q1
      | ex C fs ms' => rw [hF] at q1; exact q1.elim
      | ok r ms' =>
        rw [hF] at q1
        dsimp only at q1 ⊢
        by_cases hl : ms'.length = ms.length
        · rw [if_pos hl] at q1
          intro v F' H' fp' P' s' S' ⟨fpr, hP, o, ndr, dj, frr⟩
          obtain ⟨A1, A2, A3⟩ := S1.after nd ha r1 hl s' S' hP dj
          exact q1 v F' H' _ _ A2 A1 ⟨fpr, rfl, o, ndr, A3, frr⟩
        · rw [if_neg hl] at q1
          exact q1.elim
  · rw [if_neg nd] at q1
    exact q1.elim
/-- the call's reading -/
theorem call_of {K : PySem.W.Frag} {Fs : List M → FOut} {σ : L2.St} {H : Hp} {Q : VK} (t : tM K W bv (callM Fs fr) σ H Q) : tR K W bv fr σ H fun vs H1 => spF K Fs vs H1 Q E0 :=
  tG.mono (tG.bnd (r := rAR K σ) t) fun vs H1 ⟨as, e1, F1, fp1, S1, r1, q1⟩ => call_at S1 r1 q1
theorem dm_call {Fs : List M → FOut} {k : Nat} {f : Addr} {fd : FuncData} {ps : List Str} {x : Str} {p : Pos} (G : FnG X.prog X.w X.K X.mg X.base k f fd ps (spF X.K Fs)) (hgd : X.A.guards = some []) (hr : Room k X.A) (hm : X.mg x = some (.ref f)) (hk : PySem.W.keepIn X.K (.ref f) = true) (hb : Binds X.K fd ps [])
    (ha : DR X W bv (a :: es) fr) (hg : Gl X x := by rfl) (hdb : (x == ("__debug__" : Str)) = false := by decide) (he : starEach (a :: es) X.env = (false, eval a X.env) :: starEach es X.env := by rfl) (hpl : (backTo pos (starEach es X.env)).any (·.1) = false := by rfl) :
    DM X W bv (.Call (.Name x p) (a :: es) [] pos) (callM Fs fr) :=
  pe_imp (pe_callG (E := E0) G hgd hr hg hm hk hb ha hdb he hpl) fun σ H Q t => call_of t
/-- an owned result, from then on data -/
def frzE (f : EM M) : EM D := bnd f fun m => lif m.toD
theorem de_ofM {e : Expr} {f : EM M} (h : DM X W bv e f) : DE X W bv e (frzE f) :=
  pe_imp h fun σ H Q ⟨e, F, fp, S, q⟩ => by
    refine ⟨e, F, fp, S, ?_⟩
    unfold AtG frzE bnd at q
    unfold AtG
    cases z : f e with
    | no => rw [z] at q; exact q
    | ex C fs e' => rw [z] at q; exact q
    | ok m e' =>
      rw [z] at q
      intro x F' H' fp' P' s' S' ⟨fpr, hP, o, nd, dj, fr'⟩
      dsimp only at q
      cases hd : m.toD with
      | none => rw [hd] at q; exact q.elim
      | some d =>
        rw [hd] at q
        have sF : Sub F' (ov H' F' fpr) := Sub.ov fr'
        refine q x (ov H' F' fpr) H' fp' (Pf fp') ⟨s'.ext.trans sF, s'.keep, s'.live, fun a h => ?_, fun a h => s'.newP a (by rw [hP]; exact .inl h)⟩ (S'.heap sF S'.sub.of_ov (fun _ _ _ _ h => h) fun i a h => ?_) ⟨rfl, o.frozen fr' hd⟩
        · by_cases n : a ∈ fpr
          · exact .inr ((s'.newP a (by rw [hP]; exact .inr n)).imp id nw_of)
          · rw [ov_out n] at h
            exact s'.newF a h
        · rw [ov_out fun n => dj a n ⟨i, h⟩]
          exact S'.fr i a h
theorem de_call {Fs : List M → FOut} {k : Nat} {f : Addr} {fd : FuncData} {ps : List Str} {x : Str} {p : Pos} (G : FnG X.prog X.w X.K X.mg X.base k f fd ps (spF X.K Fs)) (hgd : X.A.guards = some []) (hr : Room k X.A) (hm : X.mg x = some (.ref f)) (hk : PySem.W.keepIn X.K (.ref f) = true) (hb : Binds X.K fd ps [])
    (ha : DR X W bv (a :: es) fr) (hg : Gl X x := by rfl) (hdb : (x == ("__debug__" : Str)) = false := by decide) (he : starEach (a :: es) X.env = (false, eval a X.env) :: starEach es X.env := by rfl) (hpl : (backTo pos (starEach es X.env)).any (·.1) = false := by rfl) :
    DE X W bv (.Call (.Name x p) (a :: es) [] pos) (callD Fs fr) := de_ofM (dm_call G hgd hr hm hk hb ha hg hdb he hpl)
theorem de_call0 {Fs : List M → FOut} {k : Nat} {f : Addr} {fd : FuncData} {ps : List Str} {x : Str} {p : Pos} (G : FnG X.prog X.w X.K X.mg X.base k f fd ps (spF X.K Fs)) (hgd : X.A.guards = some []) (hr : Room k X.A) (hm : X.mg x = some (.ref f)) (hk : PySem.W.keepIn X.K (.ref f) = true) (hb : Binds X.K fd ps [])
    (hg : Gl X x := by rfl) (hdb : (x == ("__debug__" : Str)) = false := by decide) :
    DE X W bv (.Call (.Name x p) [] [] pos) (callD Fs arN) := de_ofM (pe_imp (pe_call0G (E := E0) G hgd hr hg hm hk hb hdb) fun σ H Q t => by
      obtain ⟨e, F, fp, S, q⟩ := call_of t
      exact AtG.here (r := rAR X.K σ) (x := []) S q trivial)
end
end FD

/-! FD: comprehensions. -/
namespace FD
open PySem L2
def wipeE (e : Env) : List Nat → Env
  | [] => e
  | v :: vs => (wipeE e vs).set v none
def imAt (e : Env) (v : Nat) : Bool := match e[v]? with
  | some (some m) => isIm m
  | _ => true
/-- what the slots vs held is held again -/
def backE (e1 e : Env) : List Nat → Env
  | [] => e1
  | v :: vs => match e[v]? with
    | some o => (backE e1 e vs).set v o
    | none => backE e1 e vs
theorem wipeE_len {e : Env} : ∀ {vs : List Nat}, (wipeE e vs).length = e.length
  | [] => rfl
  | v :: vs => by unfold wipeE; rw [List.length_set, wipeE_len]
theorem wipeE_out {e : Env} {i : Nat} : ∀ {vs : List Nat}, i ∉ vs → (wipeE e vs)[i]? = e[i]?
  | [], _ => rfl
  | v :: vs, h => by
    rw [List.mem_cons, not_or] at h
    unfold wipeE
    rw [List.getElem?_set_ne (Ne.symm h.1), wipeE_out h.2]
theorem wipeE_in {e : Env} {i : Nat} {m : M} : ∀ {vs : List Nat}, i ∈ vs → (wipeE e vs)[i]? ≠ some (some m)
  | v :: vs, h => by
    unfold wipeE
    by_cases n : v = i
    · subst n
      rw [List.getElem?_set]
      simp only [if_true]
      split <;> simp
    · rw [List.getElem?_set_ne n]
      exact wipeE_in (by
        rcases List.mem_cons.mp h with q | q
        · exact absurd q.symm n
        · exact q)
theorem backE_len {e1 e : Env} : ∀ {vs : List Nat}, (backE e1 e vs).length = e1.length
  | [] => rfl
  | v :: vs => by
    unfold backE
    split
    · rw [List.length_set, backE_len]
    · exact backE_len
theorem backE_out {e1 e : Env} {i : Nat} : ∀ {vs : List Nat}, i ∉ vs → (backE e1 e vs)[i]? = e1[i]?
  | [], _ => rfl
  | v :: vs, h => by
    rw [List.mem_cons, not_or] at h
    unfold backE
    split
    · rw [List.getElem?_set_ne (Ne.symm h.1), backE_out h.2]
    · exact backE_out h.2
theorem backE_in {e1 e : Env} {i : Nat} (hl : e1.length = e.length) : ∀ {vs : List Nat}, i ∈ vs → (backE e1 e vs)[i]? = e[i]?
  | v :: vs, h => by
    unfold backE
    by_cases n : v = i
    · subst n
      split
      · rename_i o ho
        have hv := (List.getElem?_eq_some_iff.mp ho).1
        rw [List.getElem?_set_self (by rw [backE_len]; omega), ho]
      · rename_i ho
        rw [ho, List.getElem?_eq_none_iff, backE_len]
        have := List.getElem?_eq_none_iff.mp ho
        omega
    · have h' : i ∈ vs := by
        rcases List.mem_cons.mp h with q | q
        · exact absurd q.symm n
        · exact q
      split
      · rw [List.getElem?_set_ne n]
        exact backE_in hl h'
      · exact backE_in hl h'
theorem wipe_in {σ : L2.St} {i : Nat} {x : V} : ∀ {vs : List Nat}, i ∈ vs → (wipe σ vs)[i]? ≠ some (some x) := fun h q => (wipe_some q).2 h
section
variable {K : PySem.W.Frag} {bv : Nat → Option V} {e : Env} {σ : L2.St} {F H : Hp} {fp : Nat → List Addr}
theorem SS.nilAt (S : SS K bv e σ F H fp) {v : Nat} (h : imAt e v = true) : fp v = [] := by
  cases q : fp v with
  | nil => rfl
  | cons a l =>
    obtain ⟨m, hm⟩ := S.nil v a (by rw [q]; exact List.mem_cons_self)
    unfold imAt at h
    rw [hm] at h
    dsimp only at h
    obtain ⟨u, _, o⟩ := S.own v m hm
    cases m with
    | im d =>
      rw [q] at o
      cases o
    | _ => cases h
theorem SS.wipe {vs : List Nat} (S : SS K bv e σ F H fp) (h : vs.all (imAt e) = true) (hb : vs.all (fun i => (bv i).isNone) = true) : SS K bv (wipeE e vs) (L2.wipe σ vs) F H fp := by
  rw [List.all_eq_true] at h hb
  refine ⟨S.sub, fun i m q => ?_, fun i a q => ?_, S.nd, S.dj, S.fr, fun i v q => ?_, by rw [wipeE_len, wipe_length]; exact S.len⟩
  · by_cases hi : i ∈ vs
    · exact absurd q (wipeE_in hi)
    · rw [wipeE_out hi] at q
      rw [wipe_out hi]
      exact S.own i m q
  · by_cases hi : i ∈ vs
    · rw [S.nilAt (h i hi)] at q
      cases q
    · rw [wipeE_out hi]
      exact S.nil i a q
  · by_cases hi : i ∈ vs
    · have := hb i hi
      rw [q] at this
      cases this
    · rw [wipe_out hi]
      exact S.bor i v q
/-- behind a block: its own slots hold what they held -/
theorem SS.unwipe {vs : List Nat} {e1 : Env} {F' H' : Hp} {fp' : Nat → List Addr} (S : SS K bv e σ F H fp) (h : vs.all (imAt e) = true) (s : Sub F F') (S' : SS K bv e1 (L2.wipe σ vs) F' H' fp') (hw : vs.all (imAt e1) = true) : SS K bv (backE e1 e vs) σ F' H' fp' := by
  have hl : e1.length = e.length := by rw [S'.len, wipe_length]; exact S.len.symm
  rw [List.all_eq_true] at h hw
  refine ⟨S'.sub, fun i m q => ?_, fun i a q => ?_, S'.nd, S'.dj, S'.fr, S.bor, by rw [backE_len, hl]; exact S.len⟩
  · by_cases hi : i ∈ vs
    · rw [backE_in hl hi] at q
      obtain ⟨v, hv, o⟩ := S.own i m q
      have him := h i hi
      unfold imAt at him
      rw [q] at him
      dsimp only at him
      cases m with
      | im d =>
        generalize fp i = l at o
        cases o with
        | im r =>
          rw [S'.nilAt (hw i hi)]
          exact ⟨v, hv, .im (r.mono s)⟩
      | _ => cases him
    · rw [backE_out hi] at q
      obtain ⟨v, hv, o⟩ := S'.own i m q
      rw [wipe_out hi] at hv
      exact ⟨v, hv, o⟩
  · by_cases hi : i ∈ vs
    · rw [S'.nilAt (hw i hi)] at q
      cases q
    · rw [backE_out hi]
      exact S'.nil i a q
end
theorem wipe_off {σ σ' : L2.St} {l vs : List Nat} (o : Off l σ σ') (hs : ∀ i ∈ l, i ∈ vs) : wipe σ' vs = wipe σ vs := by
  have key : ∀ (τ : L2.St) (us : List Nat) (i : Nat), i ∈ us → (wipe τ us)[i]? = if i < τ.length then some none else none := by
    intro τ us
    induction us with
    | nil => intro i h; cases h
    | cons v us ih =>
      intro i h
      unfold wipe
      by_cases n : v = i
      · subst n
        rw [List.getElem?_set]
        simp only [if_true, wipe_length]
      · rw [List.getElem?_set_ne n]
        exact ih i (by
          rcases List.mem_cons.mp h with q | q
          · exact absurd q.symm n
          · exact q)
  apply List.ext_getElem?
  intro i
  by_cases hi : i ∈ vs
  · rw [key _ _ _ hi, key _ _ _ hi, o.1]
  · rw [wipe_out hi, wipe_out hi, o.2 i fun q => hi (hs i q)]

/-- the items that a comprehension makes, one turn after another -/
def compL (vs : List Nat) (t : D → EM Unit) (tt : EM Bool) (te : EM D) : List D → EM (List D)
  | [] => ret []
  | d :: ds => fun e => match t d e with
    | .ok _ e1 => match tt e1 with
      | .ok true e2 => match te e2 with
        | .ok y e3 => if vs.all (imAt e3) then (match compL vs t tt te ds (wipeE e3 vs) with
          | .ok ys e4 => .ok (y :: ys) e4
          | _ => .no) else .no
        | _ => .no
      | .ok false e2 => if vs.all (imAt e2) then compL vs t tt te ds (wipeE e2 vs) else .no
      | _ => .no
    | _ => .no
def compE (vs : List Nat) (fi : EM (List D)) (t : D → EM Unit) (tt : EM Bool) (te : EM D) : EM D := bnd fi fun ds e => if vs.all (imAt e) then (match compL vs t tt te ds (wipeE e vs) with
  | .ok ys e1 => if few ys.length && vs.all (imAt e1) then .ok (.list ys) (backE e1 e vs) else .no
  | _ => .no) else .no

section
variable {K : PySem.W.Frag} {W : WX} {bv : Nat → Option V} {σ : L2.St}
/-- the state of a comprehension under way: A the new list's address -/
structure CS (K : PySem.W.Frag) (bv : Nat → Option V) (e : Env) (σ : L2.St) (F H : Hp) (fp : Nat → List Addr) (A : Addr) (ys : List D) : Prop where
  ss : SS K bv e σ F H fp
  li : ∃ acc, H A = some (.lst acc) ∧ RpL K F acc ys
  nf : F A = none
  np : ¬ Pf fp A
theorem CS.step {e e' : Env} {σ' : L2.St} {F H F' H' : Hp} {fp fp' : Nat → List Addr} {A : Addr} {ys : List D} (C : CS K bv e σ F H fp A ys) (s : Stp F H (Pf fp) F' H' (Pf fp')) (S' : SS K bv e' σ' F' H' fp') : CS K bv e' σ' F' H' fp' A ys := by
  obtain ⟨acc, h1, h2⟩ := C.li
  refine ⟨S', ⟨acc, s.keep A _ h1 C.np (.inl C.nf), h2.mono s.ext⟩, ?_, fun z => ?_⟩
  · cases q : F' A with
    | none => rfl
    | some o =>
      rcases s.newF A (by rw [q]; simp) with z | z | z
      · exact absurd C.nf z
      · exact absurd z C.np
      · obtain ⟨_, z⟩ := z _ h1; cases z
  · rcases s.newP A z with z | z
    · exact C.np z
    · rw [h1] at z; cases z
/-- one more item -/
theorem CS.app {e : Env} {F H : Hp} {fp : Nat → List Addr} {A : Addr} {ys : List D} {acc : List V} {v : V} {y : D} (C : CS K bv e σ F H fp A ys) (h1 : H A = some (.lst acc)) (h2 : RpL K F acc ys) (r : Rp K F v y) : CS K bv e σ F (upd H A (.lst (acc ++ [v]))) fp A (ys ++ [y]) where
  ss := C.ss.heap (Sub.refl F) (C.ss.sub.mut C.nf) (fun i a o h q => by
    rw [upd_ne fun z => C.np (by rw [← z]; exact ⟨i, h⟩)]
    exact q) C.ss.fr
  li := ⟨_, upd_same, h2.append (.cons r .nil)⟩
  nf := C.nf
  np := C.np
theorem Stp.grow {F H F' H' : Hp} {P P' : Addr → Prop} {A : Addr} {o : HO} (s : Stp F H P F' H' P') (h : H A = none) : Stp F H P F' (upd H' A o) P' where
  ext := s.ext
  keep := fun a u q n f => by
    rw [upd_ne (ne_of_none q h)]
    exact s.keep a u q n f
  live := fun a q => by
    by_cases n : a = A
    · subst n; exact h
    · rw [upd_ne n] at q; exact s.live a q
  newF := s.newF
  newP := s.newP
/-- the end: the list is data -/
theorem CS.done {e : Env} {F H F0 H0 : Hp} {fp fp0 : Nat → List Addr} {A : Addr} {ys : List D} (C : CS K bv e σ F H fp A ys) (s : Stp F0 H0 (Pf fp0) F H (Pf fp)) (h0 : H0 A = none) :
    ∃ F', Stp F0 H0 (Pf fp0) F' H (Pf fp) ∧ SS K bv e σ F' H fp ∧ Rp K F' (.ref A) (.list ys) := by
  obtain ⟨acc, h1, h2⟩ := C.li
  have sF : Sub F (upd F A (.lst acc)) := Sub.new C.nf
  have sH : Sub (upd F A (.lst acc)) H := by
    refine ⟨fun a u r => ?_, fun a vs q => ?_, fun a ob u q => ?_⟩
    · by_cases n : a = A
      · subst n
        exact rd_at (by rw [upd_same, h1]) r
      · exact C.ss.sub.rd a u (rd_at (upd_ne n).symm r)
    · by_cases n : a = A
      · subst n
        rw [upd_same] at q
        cases q
      · rw [upd_ne n] at q
        exact C.ss.sub.tp a vs q
    · by_cases n : a = A
      · subst n
        rw [upd_same] at q
        cases q
      · rw [upd_ne n] at q
        exact C.ss.sub.fz a ob u q
  refine ⟨upd F A (.lst acc), ⟨s.ext.trans sF, s.keep, s.live, fun a q => ?_, s.newP⟩, C.ss.heap sF sH (fun _ _ _ _ q => q) (fun i a q => ?_), .lst (.inl (.inl upd_same)) (h2.mono sF)⟩
  · by_cases n : a = A
    · subst n; exact .inr (.inr (nw_of h0))
    · rw [upd_ne n] at q; exact s.newF a q
  · rw [upd_ne fun z => C.np (by rw [← z]; exact ⟨i, q⟩)]
    exact C.ss.fr i a q
/-- one turn -/
theorem turn_of {vs l : List Nat} {t : D → EM Unit} {tt : EM Bool} {te : EM D} {e ef : Env} {F H : Hp} {fp : Nat → List Addr} {A : Addr} {d : D} {ds ys zs : List D} {x : V} {Nx : Hp → Prop} (hl : ∀ i ∈ l, i ∈ vs) (hb : vs.all (fun i => (bv i).isNone) = true) (hz : ys.length + zs.length ≤ 1000000)
    (C : CS K bv e (wipe σ vs) F H fp A ys) (r : Rp K F x d) (q : compL vs t tt te (d :: ds) e = .ok zs ef)
    (hN : ∀ e' F' H' fp' ys' zs', (∃ H1, Stp F H (Pf fp) F' H1 (Pf fp') ∧ (H' = H1 ∨ ∃ o, H' = upd H1 A o)) → CS K bv e' (wipe σ vs) F' H' fp' A ys' → compL vs t tt te ds e' = .ok zs' ef → ys' ++ zs' = ys ++ zs → Nx H') :
    tTg K bv l t x (wipe σ vs) H fun σ2 H2 => wipe σ2 vs = wipe σ vs ∧ tT K W0 bv tt σ2 H2 fun b H3 =>
      if b = true then tE K W0 bv te σ2 H3 fun y H4 => ∃ acc, H4 A = some (.lst acc) ∧ acc.length < sizeLine ∧ Nx (upd H4 A (.lst (acc ++ [y]))) else Nx H3 := by
  refine ⟨e, F, fp, d, C.ss, r, ?_⟩
  simp only [compL] at q
  cases z1 : t d e with
  | no => rw [z1] at q; cases q
  | ex _ _ _ => rw [z1] at q; cases q
  | ok _ e1 =>
    rw [z1] at q
    dsimp only at q ⊢
    intro σ2 F2 H2 fp2 o2 s2 S2
    have w2 := wipe_off (vs := vs) o2 hl
    have ww : wipe (wipe σ vs) vs = wipe σ vs := wipe_off ⟨wipe_length σ vs, fun j h => wipe_out h⟩ (l := vs) fun _ h => h
    rw [ww] at w2
    refine ⟨w2, e1, F2, fp2, S2, ?_⟩
    unfold AtG
    cases z2 : tt e1 with
    | no => rw [z2] at q; cases q
    | ex _ _ _ => rw [z2] at q; cases q
    | ok b e2 =>
      rw [z2] at q
      intro b' F3 H3 fp3 P3 s3 S3 hb3
      obtain ⟨rfl, hb3⟩ := hb3
      cases (show b' = b from hb3)
      have s23 := s2.trans s3
      cases b with
      | false =>
        rw [if_neg Bool.false_ne_true]
        dsimp only at q
        split at q
        · rename_i hw
          have S3' := S3.wipe hw hb
          rw [w2] at S3'
          exact hN _ F3 H3 fp3 ys zs ⟨H3, s23, .inl rfl⟩ (C.step s23 S3') q rfl
        · cases q
      | true =>
        rw [if_pos rfl]
        dsimp only at q
        refine ⟨e2, F3, fp3, S3, ?_⟩
        unfold AtG
        cases z3 : te e2 with
        | no => rw [z3] at q; cases q
        | ex _ _ _ => rw [z3] at q; cases q
        | ok y e3 =>
          rw [z3] at q
          intro v F4 H4 fp4 P4 s4 S4 r4
          obtain ⟨rfl, r4⟩ := r4
          dsimp only at q
          split at q
          · rename_i hw
            cases z4 : compL vs t tt te ds (wipeE e3 vs) with
            | no => rw [z4] at q; cases q
            | ex _ _ _ => rw [z4] at q; cases q
            | ok zs' e4 =>
              rw [z4] at q
              cases q
              have s24 := s23.trans s4
              have S4' := S4.wipe hw hb
              rw [w2] at S4'
              have C4 := C.step s24 S4'
              obtain ⟨acc, h1, h2⟩ := C4.li
              refine ⟨acc, h1, ?_, ?_⟩
              · rw [h2.length]
                refine Nat.lt_of_le_of_lt (m := 1000000) ?_ (by decide)
                rw [List.length_cons] at hz
                omega
              · exact hN _ F4 _ fp4 (ys ++ [y]) zs' ⟨H4, s24, .inr ⟨_, rfl⟩⟩ (C4.app h1 h2 r4) z4 (by simp)
          · cases q
theorem comp_of {vs l : List Nat} {fi : EM (List D)} {t : D → EM Unit} {tt : EM Bool} {te : EM D} {H : Hp} {Q : VK} (hl : ∀ i ∈ l, i ∈ vs) (hb : vs.all (fun i => (bv i).isNone) = true)
    (h : tE K W bv (compE vs fi t tt te) σ H Q) : tLc (tI K W bv fi) (tTg K bv l t) (tT K W0 bv tt) (tE K W0 bv te) vs σ H Q := by
  obtain ⟨e, F, fp, S, q⟩ := h
  refine ⟨e, F, fp, S, ?_⟩
  unfold AtG compE bnd at q
  cases z : fi e with
  | no => rw [z] at q; exact q
  | ex C fs e' => rw [z] at q; exact q
  | ok ds e1 =>
    rw [z] at q
    intro J F1 H1 fp1 s1 S1 wk A hA
    dsimp only at q
    by_cases hw : vs.all (imAt e1) = true
    · rw [if_pos hw] at q
      cases z2 : compL vs t tt te ds (wipeE e1 vs) with
      | no => rw [z2] at q; exact q.elim
      | ex _ _ _ => rw [z2] at q; exact q.elim
      | ok zs ef =>
        rw [z2] at q
        dsimp only at q
        by_cases hfew : (few zs.length && vs.all (imAt ef)) = true
        · rw [if_pos hfew] at q
          rw [Bool.and_eq_true] at hfew
          have hz : zs.length ≤ 1000000 := of_decide_eq_true hfew.1
          have S1' := S1.wipe hw hb
          have fA : F1 A = none := S1.sub.non hA
          have pA : ¬ Pf fp1 A := fun ⟨i, h⟩ => by
            obtain ⟨o, ho⟩ := S1.live h
            rw [hA] at ho
            cases ho
          have C0 : CS K bv (wipeE e1 vs) (wipe σ vs) F1 (upd H1 A (.lst [])) fp1 A [] := by
            refine ⟨S1'.heap (Sub.refl F1) (S1.sub.mut fA) (fun i a o h q => ?_) S1.fr, ⟨[], upd_same, .nil⟩, fA, pA⟩
            rw [upd_ne (ne_of_none q hA)]
            exact q
          refine ⟨fun i m H' => m = ds.length - i ∧ i ≤ ds.length ∧ ∃ e' F' fp' ys zs', Stp F1 H1 (Pf fp1) F' H' (Pf fp') ∧ CS K bv e' (wipe σ vs) F' H' fp' A ys ∧ compL vs t tt te (ds.drop i) e' = .ok zs' ef ∧ ys ++ zs' = zs, ⟨ds.length, rfl, Nat.zero_le _, wipeE e1 vs, F1, fp1, [], zs, (Stp.refl _ _ _).grow hA, C0, z2, rfl⟩, ?_⟩
          rintro i m H' ⟨rfl, hi, e', F', fp', ys, zs', s', C', q', hyz⟩
          obtain ⟨go, stop⟩ := wk F' H' i s'.ext C'.ss.sub
          by_cases hlt : i < ds.length
          · refine .inr ⟨(go ds[i] (List.getElem?_eq_getElem hlt)).1, _, fun H2 h2 => ⟨ds.length - (i + 1), by omega, h2⟩, fun x H2 y => ?_⟩
            obtain ⟨F2, gr, r2⟩ := (go ds[i] (List.getElem?_eq_getElem hlt)).2 x H2 y
            have s2 : Stp F' H' (Pf fp') F2 H2 (Pf fp') := gr.stp C'.ss.sub
            have C2 := C'.step s2 (gr.ss C'.ss)
            rw [List.drop_eq_getElem_cons hlt] at q'
            refine turn_of hl hb (by rw [← hyz, List.length_append] at hz; exact hz) C2 r2 q' fun e3 F3 H3 fp3 ys3 zs3 ⟨H4, s4, h4⟩ C3 q3 h3 => ?_
            refine ⟨rfl, hlt, e3, F3, fp3, ys3, zs3, ?_, C3, q3, h3.trans hyz⟩
            have s5 := (s'.trans s2).trans s4
            rcases h4 with rfl | ⟨o, rfl⟩
            · exact s5
            · exact s5.grow hA
          · have ei : i = ds.length := by omega
            subst ei
            rw [List.drop_length] at q'
            cases q'
            rw [List.append_nil] at hyz
            subst hyz
            obtain ⟨F2, s2, S2, r2⟩ := C'.done s' hA
            exact .inl ⟨stop (Nat.le_refl _) (Nat.le_refl _), q _ F2 H' fp' (Pf fp') (s1.trans s2) (S1.unwipe hw s2.ext S2 hfew.2) ⟨rfl, r2⟩⟩
        · rw [if_neg hfew] at q
          exact q.elim
    · rw [if_neg hw] at q
      exact q.elim
end
section
variable {X : Cx} {W : WX} {bv : Nat → Option V} {pos : Pos}
abbrev DTs (X : Cx) (W : WX) (bv : Nat → Option V) (es : List Expr) (f : EM Bool) : Prop := PTs X es (tT X.K W bv f)
theorem pts_imp {X : Cx} {e : List Expr} {t t' : TT} (h : PTs X e t) (w : ∀ σ H Q, t' σ H Q → t σ H Q) : PTs X e t' := ⟨fun pins s σ H Q I q => h.run pins s σ H Q I (w σ H Q q)⟩
theorem dts_nil : DTs X W bv [] (ret true) := pts_imp pts_nil fun σ H Q ⟨e, F, fp, S, q⟩ => AtG.here (r := rB) S q rfl
theorem dts_one {c : Expr} {f : EM Bool} (h : DT X W bv c f) : DTs X W bv [c] f := pts_one h
theorem de_comp {elt tg iter : Expr} {ifs : List Expr} {scope : Scope} (own : List (Str × Nat)) {l : List Nat} {fi : EM (List D)} {t : D → EM Unit} {tt : EM Bool} {te : EM D} (hN : X.N.Nodup) (hi : DI X W bv tg iter fi) (ok : BlkOk X.N X.env.scope scope own)
    (hg : ∀ (s : Shared) (H : Hp) (C : Addr) (cl : List (Str × Addr)) (fp : List Addr), DG (X.blk s H scope (compEnvC scope cl C X.env) fp) bv tg l t) (ht : ∀ (s : Shared) (H : Hp) (C : Addr) (cl : List (Str × Addr)) (fp : List Addr), DTs (X.blk s H scope (compEnvC scope cl C X.env) fp) W0 bv ifs tt)
    (he : ∀ (s : Shared) (H : Hp) (C : Addr) (cl : List (Str × Addr)) (fp : List Addr), DE (X.blk s H scope (compEnvC scope cl C X.env) fp) W0 bv elt te) (hl : l.all ((own.map (·.2)).contains ·) = true := by rfl) (hb : (own.map (·.2)).all (fun i => (bv i).isNone) = true := by rfl)
    (hc : X.calm = true := by rfl) (hs : ∀ x, foldedSetIterable iter X.env x = pure x := by intro _; rfl) :
    DE X W bv (.ListComp elt [⟨tg, iter, ifs, 0⟩] scope pos) (compE (own.map (·.2)) fi t tt te) :=
  pe_imp (pe_lc hc hN hi ok hg ht he hs) fun σ H Q h => comp_of (fun i hi => by
    rw [List.all_eq_true] at hl
    exact List.contains_iff_mem.mp (hl i hi)) hb h
theorem ds_setLc (i : Nat) {y : Str} {py : Pos} {elt tg iter : Expr} {ifs : List Expr} {scope : Scope} (own : List (Str × Nat)) {l : List Nat} {spos : Pos} {fi : EM (List D)} {t : D → EM Unit} {tt : EM Bool} {te : EM D} (hN : X.N.Nodup) (hi : DI X W bv tg iter fi) (ok : BlkOk X.N X.env.scope scope own)
    (hg : ∀ (s : Shared) (H : Hp) (C : Addr) (cl : List (Str × Addr)) (fp : List Addr), DG (X.blk s H scope (compEnvC scope cl C X.env) fp) bv tg l t) (ht : ∀ (s : Shared) (H : Hp) (C : Addr) (cl : List (Str × Addr)) (fp : List Addr), DTs (X.blk s H scope (compEnvC scope cl C X.env) fp) W0 bv ifs tt)
    (he : ∀ (s : Shared) (H : Hp) (C : Addr) (cl : List (Str × Addr)) (fp : List Addr), DE (X.blk s H scope (compEnvC scope cl C X.env) fp) W0 bv elt te)
    (hsw : swapsWith (.ListComp elt [⟨tg, iter, ifs, 0⟩] scope pos) (some (.Name y py)) spos.line X.env = pure true)
    (hy : X.N[i]? = some y := by rfl) (hyl : X.env.scope.names.lookup y = some .local := by rfl) (hbi : bv i = none := by rfl)
    (hl : l.all ((own.map (·.2)).contains ·) = true := by rfl) (hb : (own.map (·.2)).all (fun i => (bv i).isNone) = true := by rfl) (hc : X.calm = true := by rfl) (hs : ∀ x, foldedSetIterable iter X.env x = pure x := by intro _; rfl) :
    DS X W bv (.Assign [.Name y py] (.ListComp elt [⟨tg, iter, ifs, 0⟩] scope pos) spos) (setS i (compE (own.map (·.2)) fi t tt te)) :=
  ps_imp (ps_setLc hc hN hy hyl hsw hi ok hg ht he hs) fun D σ H ⟨e, F, fp, S, q⟩ => comp_of (fun i hi => by
    rw [List.all_eq_true] at hl
    exact List.contains_iff_mem.mp (hl i hi)) hb (tG.mono (AtS.bnd' (r := rD X.K) S q) fun v H1 ⟨d, e1, F1, fp1, _, _, S1, r1, q1⟩ => stoM_at hbi (Stp.refl _ _ _) S1 (rM_im r1) q1)
end
end FD

/-! FD: comprehensions with two fors. -/
namespace FD
open PySem L2
def compL2 (vs vs1 : List Nat) (t : D → EM Unit) (tt : EM Bool) (fi1 : EM (List D)) (t1 : D → EM Unit) (tt1 : EM Bool) (te : EM D) : List D → EM (List D)
  | [] => ret []
  | d :: ds => fun e => match t d e with
    | .ok _ e1 => match tt e1 with
      | .ok true e2 => match fi1 e2 with
        | .ok ds1 e3 => if vs1.all (imAt e3) then (match compL vs1 t1 tt1 te ds1 (wipeE e3 vs1) with
          | .ok ys e4 => if vs.all (imAt e4) then (match compL2 vs vs1 t tt fi1 t1 tt1 te ds (wipeE e4 vs) with
            | .ok zs e5 => .ok (ys ++ zs) e5
            | _ => .no) else .no
          | _ => .no) else .no
        | _ => .no
      | .ok false e2 => if vs.all (imAt e2) then compL2 vs vs1 t tt fi1 t1 tt1 te ds (wipeE e2 vs) else .no
      | _ => .no
    | _ => .no
def compE2 (vs vs1 : List Nat) (fi : EM (List D)) (t : D → EM Unit) (tt : EM Bool) (fi1 : EM (List D)) (t1 : D → EM Unit) (tt1 : EM Bool) (te : EM D) : EM D := bnd fi fun ds e => if vs.all (imAt e) then (match compL2 vs vs1 t tt fi1 t1 tt1 te ds (wipeE e vs) with
  | .ok ys e1 => if few ys.length && vs.all (imAt e1) then .ok (.list ys) (backE e1 e vs) else .no
  | _ => .no) else .no
section
variable {K : PySem.W.Frag} {W : WX} {bv : Nat → Option V} {σ : L2.St}
/-- the inner loop of a comprehension, from where it starts -/
theorem inner_of {vs1 l1 : List Nat} {t1 : D → EM Unit} {tt1 : EM Bool} {te : EM D} {e ef : Env} {F H F0 H0 : Hp} {fp fp0 : Nat → List Addr} {A : Addr} {ds ys zs : List D} {J : It} {Nx : Hp → Prop} (hl : ∀ i ∈ l1, i ∈ vs1) (hb : vs1.all (fun i => (bv i).isNone) = true) (hz : ys.length + zs.length ≤ 1000000)
    (h0 : H0 A = none) (s0 : Stp F0 H0 (Pf fp0) F H (Pf fp)) (C : CS K bv e (wipe σ vs1) F H fp A ys) (wk : WalksD K J F ds) (q : compL vs1 t1 tt1 te ds e = .ok zs ef)
    (hN : ∀ F' H' fp', Stp F0 H0 (Pf fp0) F' H' (Pf fp') → Sub F F' → CS K bv ef (wipe σ vs1) F' H' fp' A (ys ++ zs) → Nx H') :
    ∃ W1 : Nat → Nat → Hp → Prop, (∃ m, W1 0 m H) ∧ ∀ j k H, W1 j k H →
      (J.stop j H ∧ Nx H) ∨ (J.go j H ∧ ∃ Nx1 : Hp → Prop, (∀ H', Nx1 H' → ∃ k', k' < k ∧ W1 (j + 1) k' H') ∧ ∀ x H', J.yld j H x H' → tTg K bv l1 t1 x (wipe σ vs1) H' fun σ3 H5 => wipe σ3 vs1 = wipe σ vs1 ∧ tT K W0 bv tt1 σ3 H5 fun b H6 =>
        if b = true then tE K W0 bv te σ3 H6 fun y H7 => ∃ acc, H7 A = some (.lst acc) ∧ acc.length < sizeLine ∧ Nx1 (upd H7 A (.lst (acc ++ [y]))) else Nx1 H6) := by
  refine ⟨fun i m H' => m = ds.length - i ∧ i ≤ ds.length ∧ ∃ e' F' fp' ys' zs', Stp F0 H0 (Pf fp0) F' H' (Pf fp') ∧ Sub F F' ∧ CS K bv e' (wipe σ vs1) F' H' fp' A ys' ∧ compL vs1 t1 tt1 te (ds.drop i) e' = .ok zs' ef ∧ ys' ++ zs' = ys ++ zs, ⟨ds.length, rfl, Nat.zero_le _, e, F, fp, ys, zs, s0, Sub.refl F, C, q, rfl⟩, ?_⟩
  rintro i m H' ⟨rfl, hi, e', F', fp', ys', zs', s', sub, C', q', hyz⟩
  obtain ⟨go, stop⟩ := wk F' H' i sub C'.ss.sub
  by_cases hlt : i < ds.length
  · refine .inr ⟨(go ds[i] (List.getElem?_eq_getElem hlt)).1, _, fun H2 h2 => ⟨ds.length - (i + 1), by omega, h2⟩, fun x H2 y => ?_⟩
    obtain ⟨F2, gr, r2⟩ := (go ds[i] (List.getElem?_eq_getElem hlt)).2 x H2 y
    have s2 : Stp F' H' (Pf fp') F2 H2 (Pf fp') := gr.stp C'.ss.sub
    have C2 := C'.step s2 (gr.ss C'.ss)
    rw [List.drop_eq_getElem_cons hlt] at q'
    refine turn_of hl hb (by have := congrArg List.length hyz; rw [List.length_append, List.length_append] at this; omega) C2 r2 q' fun e3 F3 H3 fp3 ys3 zs3 ⟨H4, s4, h4⟩ C3 q3 h3 => ?_
    refine ⟨rfl, hlt, e3, F3, fp3, ys3, zs3, ?_, (sub.trans s2.ext).trans s4.ext, C3, q3, h3.trans hyz⟩
    have s5 := (s'.trans s2).trans s4
    rcases h4 with rfl | ⟨o, rfl⟩
    · exact s5
    · exact s5.grow h0
  · have ei : i = ds.length := by omega
    subst ei
    rw [List.drop_length] at q'
    cases q'
    rw [List.append_nil] at hyz
    subst hyz
    exact .inl ⟨stop (Nat.le_refl _) (Nat.le_refl _), hN F' H' fp' s' sub C'⟩
theorem wipe_wipe {σ : L2.St} {vs vs1 : List Nat} (h : ∀ i ∈ vs1, i ∈ vs) : wipe (wipe σ vs1) vs = wipe σ vs := wipe_off (l := vs1) ⟨wipe_length σ vs1, fun j hj => wipe_out hj⟩ h
theorem comp2_of {vs vs1 l l1 : List Nat} {fi fi1 : EM (List D)} {t t1 : D → EM Unit} {tt tt1 : EM Bool} {te : EM D} {H : Hp} {Q : VK} (hl : ∀ i ∈ l, i ∈ vs) (hl1 : ∀ i ∈ l1, i ∈ vs1) (hv : ∀ i ∈ vs1, i ∈ vs) (hb : vs.all (fun i => (bv i).isNone) = true)
    (h : tE K W bv (compE2 vs vs1 fi t tt fi1 t1 tt1 te) σ H Q) : tLc2 (tI K W bv fi) (tTg K bv l t) (tT K W0 bv tt) (tI K W0 bv fi1) (tTg K bv l1 t1) (tT K W0 bv tt1) (tE K W0 bv te) vs vs1 σ H Q := by
  have hb1 : vs1.all (fun i => (bv i).isNone) = true := by
    rw [List.all_eq_true] at hb ⊢
    exact fun i hi => hb i (hv i hi)
  obtain ⟨e, F, fp, S, q⟩ := h
  refine ⟨e, F, fp, S, ?_⟩
  unfold AtG compE2 bnd at q
  cases z : fi e with
  | no => rw [z] at q; exact q
  | ex C fs e' => rw [z] at q; exact q
  | ok ds e1 =>
    rw [z] at q
    intro J F1 H1 fp1 s1 S1 wk A hA
    dsimp only at q
    by_cases hw : vs.all (imAt e1) = true
    · rw [if_pos hw] at q
      cases z2 : compL2 vs vs1 t tt fi1 t1 tt1 te ds (wipeE e1 vs) with
      | no => rw [z2] at q; exact q.elim
      | ex _ _ _ => rw [z2] at q; exact q.elim
      | ok zs ef =>
        rw [z2] at q
        dsimp only at q
        by_cases hfew : (few zs.length && vs.all (imAt ef)) = true
        · rw [if_pos hfew] at q
          rw [Bool.and_eq_true] at hfew
          have hz : zs.length ≤ 1000000 := of_decide_eq_true hfew.1
          have S1' := S1.wipe hw hb
          have fA : F1 A = none := S1.sub.non hA
          have pA : ¬ Pf fp1 A := fun ⟨i, h⟩ => by
            obtain ⟨o, ho⟩ := S1.live h
            rw [hA] at ho
            cases ho
          have C0 : CS K bv (wipeE e1 vs) (wipe σ vs) F1 (upd H1 A (.lst [])) fp1 A [] := by
            refine ⟨S1'.heap (Sub.refl F1) (S1.sub.mut fA) (fun i a o h q => ?_) S1.fr, ⟨[], upd_same, .nil⟩, fA, pA⟩
            rw [upd_ne (ne_of_none q hA)]
            exact q
          refine ⟨fun i m H' => m = ds.length - i ∧ i ≤ ds.length ∧ ∃ e' F' fp' ys zs', Stp F1 H1 (Pf fp1) F' H' (Pf fp') ∧ CS K bv e' (wipe σ vs) F' H' fp' A ys ∧ compL2 vs vs1 t tt fi1 t1 tt1 te (ds.drop i) e' = .ok zs' ef ∧ ys ++ zs' = zs, ⟨ds.length, rfl, Nat.zero_le _, wipeE e1 vs, F1, fp1, [], zs, (Stp.refl _ _ _).grow hA, C0, z2, rfl⟩, ?_⟩
          rintro i m H' ⟨rfl, hi, e', F', fp', ys, zs', s', C', q', hyz⟩
          obtain ⟨go, stop⟩ := wk F' H' i s'.ext C'.ss.sub
          by_cases hlt : i < ds.length
          · refine .inr ⟨(go ds[i] (List.getElem?_eq_getElem hlt)).1, _, fun H2 h2 => ⟨ds.length - (i + 1), by omega, h2⟩, fun x H2 y => ?_⟩
            obtain ⟨F2, gr, r2⟩ := (go ds[i] (List.getElem?_eq_getElem hlt)).2 x H2 y
            have s2 : Stp F' H' (Pf fp') F2 H2 (Pf fp') := gr.stp C'.ss.sub
            have C2 := C'.step s2 (gr.ss C'.ss)
            have s02 := s'.trans s2
            rw [List.drop_eq_getElem_cons hlt] at q'
            -- the outer target
            refine ⟨e', F2, fp', ds[i], C2.ss, r2, ?_⟩
            simp only [compL2] at q'
            cases z3 : t ds[i] e' with
            | no => rw [z3] at q'; cases q'
            | ex _ _ _ => rw [z3] at q'; cases q'
            | ok _ e3 =>
              rw [z3] at q'
              dsimp only at q' ⊢
              intro σ2 F3 H3 fp3 o3 s3 S3
              have w2 := wipe_off (vs := vs) o3 hl
              rw [wipe_wipe (fun _ h => h)] at w2
              refine ⟨w2, e3, F3, fp3, S3, ?_⟩
              unfold AtG
              cases z4 : tt e3 with
              | no => rw [z4] at q'; cases q'
              | ex _ _ _ => rw [z4] at q'; cases q'
              | ok b e4 =>
                rw [z4] at q'
                intro b' F4 H4 fp4 P4 s4 S4 hb4
                obtain ⟨rfl, hb4⟩ := hb4
                cases (show b' = b from hb4)
                have s34 := s3.trans s4
                cases b with
                | false =>
                  rw [if_neg Bool.false_ne_true]
                  dsimp only at q'
                  split at q'
                  · rename_i hw4
                    have S4' := S4.wipe hw4 hb
                    rw [w2] at S4'
                    exact ⟨rfl, hlt, _, F4, fp4, ys, zs', s02.trans s34, C2.step s34 S4', q', hyz⟩
                  · cases q'
                | true =>
                  rw [if_pos rfl]
                  dsimp only at q'
                  refine ⟨e4, F4, fp4, S4, ?_⟩
                  cases z5 : fi1 e4 with
                  | no => rw [z5] at q'; cases q'
                  | ex _ _ _ => rw [z5] at q'; cases q'
                  | ok ds1 e5 =>
                    rw [z5] at q'
                    dsimp only at q' ⊢
                    intro J1 F5 H5 fp5 s5 S5 wk1
                    split at q'
                    · rename_i hw5
                      cases z6 : compL vs1 t1 tt1 te ds1 (wipeE e5 vs1) with
                      | no => rw [z6] at q'; cases q'
                      | ex _ _ _ => rw [z6] at q'; cases q'
                      | ok ys1 e6 =>
                        rw [z6] at q'
                        dsimp only at q'
                        split at q'
                        · rename_i hw6
                          cases z7 : compL2 vs vs1 t tt fi1 t1 tt1 te (ds.drop (i + 1)) (wipeE e6 vs) with
                          | no => rw [z7] at q'; cases q'
                          | ex _ _ _ => rw [z7] at q'; cases q'
                          | ok zs2 e7 =>
                            rw [z7] at q'
                            cases q'
                            have s35 := s34.trans s5
                            have C5 := C2.step s35 (S5.wipe hw5 hb1)
                            refine inner_of hl1 hb1 ?_ hA (s02.trans s35) C5 wk1 z6 fun F8 H8 fp8 s8 sub8 C8 => ?_
                            · rw [← hyz, List.length_append, List.length_append] at hz
                              omega
                            · have S8 := C8.ss.wipe hw6 hb
                              rw [wipe_wipe hv, w2] at S8
                              exact ⟨rfl, hlt, wipeE e6 vs, F8, fp8, ys ++ ys1, zs2, s8, ⟨S8, C8.li, C8.nf, C8.np⟩, z7, by rw [← hyz, List.append_assoc]⟩
                        · cases q'
                    · cases q'
          · have ei : i = ds.length := by omega
            subst ei
            rw [List.drop_length] at q'
            cases q'
            rw [List.append_nil] at hyz
            subst hyz
            obtain ⟨F2, s2, S2, r2⟩ := C'.done s' hA
            exact .inl ⟨stop (Nat.le_refl _) (Nat.le_refl _), q _ F2 H' fp' (Pf fp') (s1.trans s2) (S1.unwipe hw s2.ext S2 hfew.2) ⟨rfl, r2⟩⟩
        · rw [if_neg hfew] at q
          exact q.elim
    · rw [if_neg hw] at q
      exact q.elim
end
section
variable {X : Cx} {W : WX} {bv : Nat → Option V} {pos : Pos}
theorem mem_of_all {l vs : List Nat} (h : l.all (vs.contains ·) = true) : ∀ i ∈ l, i ∈ vs := fun i hi => by
  rw [List.all_eq_true] at h
  exact List.contains_iff_mem.mp (h i hi)
theorem de_comp2 {elt tg iter tg1 iter1 : Expr} {ifs ifs1 : List Expr} {scope : Scope} (own : List (Str × Nat)) (vs1 : List Nat) {l l1 : List Nat} {fi fi1 : EM (List D)} {t t1 : D → EM Unit} {tt tt1 : EM Bool} {te : EM D} (hN : X.N.Nodup) (hi : DI X W bv tg iter fi) (ok : BlkOk X.N X.env.scope scope own)
    (hg : ∀ (s : Shared) (H : Hp) (C : Addr) (cl : List (Str × Addr)) (fp : List Addr), DG (X.blk s H scope (compEnvC scope cl C X.env) fp) bv tg l t) (ht : ∀ (s : Shared) (H : Hp) (C : Addr) (cl : List (Str × Addr)) (fp : List Addr), DTs (X.blk s H scope (compEnvC scope cl C X.env) fp) W0 bv ifs tt)
    (hi1 : ∀ (s : Shared) (H : Hp) (C : Addr) (cl : List (Str × Addr)) (fp : List Addr), DI (X.blk s H scope (compEnvC scope cl C X.env) fp) W0 bv tg1 iter1 fi1)
    (hg1 : ∀ (s : Shared) (H : Hp) (C : Addr) (cl : List (Str × Addr)) (fp : List Addr), DG (X.blk s H scope (compEnvC scope cl C X.env) fp) bv tg1 l1 t1) (ht1 : ∀ (s : Shared) (H : Hp) (C : Addr) (cl : List (Str × Addr)) (fp : List Addr), DTs (X.blk s H scope (compEnvC scope cl C X.env) fp) W0 bv ifs1 tt1)
    (he : ∀ (s : Shared) (H : Hp) (C : Addr) (cl : List (Str × Addr)) (fp : List Addr), DE (X.blk s H scope (compEnvC scope cl C X.env) fp) W0 bv elt te) (hl : l.all ((own.map (·.2)).contains ·) = true := by rfl) (hl1 : l1.all (vs1.contains ·) = true := by rfl) (hv : vs1.all ((own.map (·.2)).contains ·) = true := by rfl)
    (hb : (own.map (·.2)).all (fun i => (bv i).isNone) = true := by rfl)
    (hc : X.calm = true := by rfl) (hs : ∀ x, foldedSetIterable iter X.env x = pure x := by intro _; rfl) (hs1 : ∀ env x, foldedSetIterable iter1 env x = pure x := by intro _ _; rfl) :
    DE X W bv (.ListComp elt [⟨tg, iter, ifs, 0⟩, ⟨tg1, iter1, ifs1, 0⟩] scope pos) (compE2 (own.map (·.2)) vs1 fi t tt fi1 t1 tt1 te) :=
  pe_imp (pe_lc2 hc hN hi ok (mem_of_all hv) hg ht hi1 hg1 ht1 he hs hs1) fun σ H Q h => comp2_of (mem_of_all hl) (mem_of_all hl1) (mem_of_all hv) hb h
end
end FD

/-! FD: built-in functions of data. -/
namespace FD
open PySem L2
/-- a rule of a built-in serves a function of data -/
def CbV (K : PySem.W.Frag) (r : List V → Hp → VK → Prop) (g : List D → Option D) : Prop := ∀ (W : WX) (bv : Nat → Option V) (e : Env) (σ : L2.St) (F H : Hp) (fp : Nat → List Addr) (vs : List V) (ds : List D) (Q : VK),
  SS K bv e σ F H fp → RpL K F vs ds → AtG K W bv (smp (rD K)) (lif (g ds)) e σ F H fp Q → r vs H Q
def CbD (X : Cx) (f : Value) (g : List D → Option D) : Prop := ∃ r, CallR X f r ∧ CbV X.K r g
def cbE (g : List D → Option D) (fs : EM (List D)) : EM D := bnd fs fun ds => lif (g ds)
theorem cb_of {K : PySem.W.Frag} {W : WX} {bv : Nat → Option V} {σ : L2.St} {H : Hp} {r : List V → Hp → VK → Prop} {g : List D → Option D} {fs : EM (List D)} {Q : VK} (h : CbV K r g) (t : tE K W bv (cbE g fs) σ H Q) : tCB r (tA K W bv fs) σ H Q :=
  tG.mono (tG.bnd (r := rL K) t) fun x H1 ⟨d, e1, F1, fp1, S1, r1, q1⟩ => h W bv e1 σ F1 H1 fp1 x d Q S1 r1 q1
section
variable {X : Cx} {W : WX} {bv : Nat → Option V} {pos p : Pos} {a b : Expr} {es : List Expr} {fa fb : EM D} {fs : EM (List D)} {g : List D → Option D} {x : Str}
theorem de_callB {id : String} (hc : CbD X (.builtin id) g) (hm : X.mg x = none) (ha : DA X W bv (a :: es) fs) (hv : bootBuiltins x = some (.builtin id) := by rfl) (hg : Gl X x := by rfl) (hn : x ≠ "__name__" := by decide) (hdb : (x == ("__debug__" : Str)) = false := by decide)
    (he : starEach (a :: es) X.env = (false, eval a X.env) :: starEach es X.env := by rfl) (hpl : (backTo pos (starEach es X.env)).any (·.1) = false := by rfl) : DE X W bv (.Call (.Name x p) (a :: es) [] pos) (cbE g fs) := by
  obtain ⟨r, hr, h⟩ := hc
  exact pe_imp (pe_callB hr hg hm hv ha hn hdb he hpl) fun σ H Q t => cb_of h t
theorem de_callT {T : String} (hc : CbD X (.type T) g) (hm : X.mg x = none) (ha : DA X W bv (a :: es) fs) (hv : bootBuiltins x = some (.type T) := by rfl) (hg : Gl X x := by rfl) (hn : x ≠ "__name__" := by decide) (hdb : (x == ("__debug__" : Str)) = false := by decide)
    (he : starEach (a :: es) X.env = (false, eval a X.env) :: starEach es X.env := by rfl) (hpl : (backTo pos (starEach es X.env)).any (·.1) = false := by rfl) : DE X W bv (.Call (.Name x p) (a :: es) [] pos) (cbE g fs) := by
  obtain ⟨r, hr, h⟩ := hc
  exact pe_imp (pe_callTy hr hg hm hv ha hn hdb he hpl) fun σ H Q t => cb_of h t
/-! ### len -/
def lenD : List D → Option D
  | [.list ds] => some (.int ds.length)
  | [.tuple ds] => some (.int ds.length)
  | [.str z] => if few z.length then some (.int z.length) else none
  | [.dict kvs] => some (.int kvs.length)
  | _ => none
def rLenR : List V → Hp → VK → Prop := fun xs H Q => ∃ p : Addr, xs = [.ref p] ∧ ((∃ kvs, Rd H p (.dK kvs) ∧ Q (.int (kvs.length : Nat)) H) ∨ ∃ kvs, Rd H p (.dT kvs) ∧ Q (.int (kvs.length : Nat)) H)
theorem call_lenR : CallR X (.builtin "len") rLenR := by
  intro pins s σ H xs us Q I r h
  obtain ⟨p, rfl, h⟩ := h
  obtain ⟨u, rfl, rx⟩ := vals1 r
  cases (show u = Value.ref p from rx)
  rcases h with ⟨kvs, hp, q⟩ | ⟨kvs, hp, q⟩
  · obtain ⟨z, hd, ys, rel, dd⟩ := dk_rd I.hok hp
    have hl : ys.length = kvs.length := (Paired.length rel).symm
    refine call_len_dict hd dd (by rw [hl]; rw [sizeLine_eq] at z; omega) ?_
    rw [hl]
    exact ⟨.int (kvs.length : Nat), H, I.tok _, ⟨_, rfl⟩, q⟩
  · obtain ⟨z, hd, ys, rel, dd⟩ := dt_rd I.hok hp
    have hl : ys.length = kvs.length := (Paired.length rel).symm
    refine call_len_dictH hd dd (by rw [hl]; rw [sizeLine_eq] at z; omega) ?_
    rw [hl]
    exact ⟨.int (kvs.length : Nat), H, I.tok _, ⟨_, rfl⟩, q⟩
theorem cb_len : CbD X (.builtin "len") lenD := by
  refine ⟨_, CallR.or call_len_seq (CallR.or call_len_str call_lenR), ?_⟩
  intro W bv e σ F H fp vs ds Q S r q
  obtain ⟨d, hd, q'⟩ := q.lif
  cases r with
  | nil => cases hd
  | cons r1 r =>
    cases r with
    | cons _ _ => cases r1 <;> cases hd
    | nil =>
      cases r1 with
      | lst h rl =>
        cases hd
        refine .inl ⟨_, _, rfl, .inl (S.sub.l h), ?_⟩
        rw [rl.length]
        exact AtG.here (r := rD X.K) S q' (.int _)
      | tup h rl =>
        cases hd
        refine .inl ⟨_, _, rfl, .inr (S.sub.t h), ?_⟩
        rw [rl.length]
        exact AtG.here (r := rD X.K) S q' (.int _)
      | str z =>
        simp only [lenD] at hd
        split at hd
        · rename_i hz
          cases hd
          exact .inr (.inl ⟨z, rfl, few_le hz, AtG.here (r := rD X.K) S q' (.int _)⟩)
        · cases hd
      | dK h k rl =>
        rename_i kvs kds
        cases hd
        refine .inr (.inr ⟨_, rfl, .inl ⟨_, S.sub.rd _ _ h, ?_⟩⟩)
        have : kvs.length = kds.length := by simpa using congrArg List.length k
        rw [this, ← List.length_map (as := kds) (f := fun p => (keyD p.1, p.2))]
        exact AtG.here (r := rD X.K) S q' (.int _)
      | dT h k rl =>
        rename_i kvs kds
        cases hd
        refine .inr (.inr ⟨_, rfl, .inr ⟨_, S.sub.rd _ _ h, ?_⟩⟩)
        have : kvs.length = kds.length := by simpa using congrArg List.length k
        rw [this, ← List.length_map (as := kds) (f := fun p => (PyData.tuple (p.1.map keyD), p.2))]
        exact AtG.here (r := rD X.K) S q' (.int _)
      | _ => cases hd
/-! ### bools, ints in lists -/
def boolsOf : List D → Option (List Bool)
  | [] => some []
  | .bool b :: r => (boolsOf r).map (b :: ·)
  | _ => none
def intsOf : List D → Option (List Int)
  | [] => some []
  | .int b :: r => (intsOf r).map (b :: ·)
  | _ => none
theorem RpL.bools {K : PySem.W.Frag} {F : Hp} : ∀ {vs : List V} {ds : List D} {bs : List Bool}, RpL K F vs ds → boolsOf ds = some bs → vs = bs.map V.bl
  | _, _, _, .nil, h => by cases h; rfl
  | _, _, _, .cons r1 r, h => by
    cases r1 with
    | bl b =>
      obtain ⟨bs', h1, rfl⟩ := Option.map_eq_some_iff.mp h
      rw [List.map_cons, r.bools h1]
    | _ => cases h
theorem RpL.ints {K : PySem.W.Frag} {F : Hp} : ∀ {vs : List V} {ds : List D} {bs : List Int}, RpL K F vs ds → intsOf ds = some bs → vs = bs.map V.int
  | _, _, _, .nil, h => by cases h; rfl
  | _, _, _, .cons r1 r, h => by
    cases r1 with
    | int b =>
      obtain ⟨bs', h1, rfl⟩ := Option.map_eq_some_iff.mp h
      rw [List.map_cons, r.ints h1]
    | _ => cases h
def anyD : List D → Option D
  | [.list ds] => (boolsOf ds).map fun bs => .bool (bs.any id)
  | _ => none
def allD : List D → Option D
  | [.list ds] => (boolsOf ds).map fun bs => .bool (bs.all id)
  | _ => none
def sumD : List D → Option D
  | [.list ds] => (intsOf ds).map fun ns => .int ns.sum
  | _ => none
theorem one_list {K : PySem.W.Frag} {F : Hp} {vs : List V} {ds : List D} {d : D} {h : List D → Option D} {k : List D → Option D} (hh : ∀ ds, h ds = match ds with | [.list es] => k es | _ => none) (r : RpL K F vs ds) (hd : h ds = some d) : ∃ a us es, vs = [.ref a] ∧ SqL K F a us ∧ RpL K F us es ∧ k es = some d := by
  rw [hh] at hd
  cases r with
  | nil => cases hd
  | cons r1 r =>
    cases r with
    | cons _ _ => cases r1 <;> cases hd
    | nil =>
      cases r1 with
      | lst h rl => exact ⟨_, _, _, rfl, h, rl, hd⟩
      | _ => cases hd
theorem cb_any (hc : X.calm = true := by rfl) : CbD X (.builtin "any") anyD := by
  refine ⟨_, cr_any hc, ?_⟩
  intro W bv e σ F H fp vs ds Q S r q
  obtain ⟨d, hd, q'⟩ := q.lif
  obtain ⟨a, us, es, rfl, h1, h2, h3⟩ := one_list (h := anyD) (k := fun ds => (boolsOf ds).map fun bs => .bool (bs.any id)) (fun ds => by unfold anyD; rfl) r hd
  obtain ⟨bs, h4, rfl⟩ := Option.map_eq_some_iff.mp h3
  exact ⟨a, bs, rfl, by rw [← h2.bools h4]; exact S.sub.l h1, AtG.here (r := rD X.K) S q' (.bl _)⟩
theorem cb_all (hc : X.calm = true := by rfl) : CbD X (.builtin "all") allD := by
  refine ⟨_, cr_all hc, ?_⟩
  intro W bv e σ F H fp vs ds Q S r q
  obtain ⟨d, hd, q'⟩ := q.lif
  obtain ⟨a, us, es, rfl, h1, h2, h3⟩ := one_list (h := allD) (k := fun ds => (boolsOf ds).map fun bs => .bool (bs.all id)) (fun ds => by unfold allD; rfl) r hd
  obtain ⟨bs, h4, rfl⟩ := Option.map_eq_some_iff.mp h3
  exact ⟨a, bs, rfl, by rw [← h2.bools h4]; exact S.sub.l h1, AtG.here (r := rD X.K) S q' (.bl _)⟩
theorem cb_sum (hc : X.calm = true := by rfl) : CbD X (.builtin "sum") sumD := by
  refine ⟨_, cr_sum hc, ?_⟩
  intro W bv e σ F H fp vs ds Q S r q
  obtain ⟨d, hd, q'⟩ := q.lif
  obtain ⟨a, us, es, rfl, h1, h2, h3⟩ := one_list (h := sumD) (k := fun ds => (intsOf ds).map fun bs => .int bs.sum) (fun ds => by unfold sumD; rfl) r hd
  obtain ⟨bs, h4, rfl⟩ := Option.map_eq_some_iff.mp h3
  exact ⟨a, bs, rfl, by rw [← h2.ints h4]; exact S.sub.l h1, AtG.here (r := rD X.K) S q' (.int _)⟩
/-! ### min, max -/
def minI : List Int → Option Int
  | [] => none
  | n :: ns => some (ns.foldl min n)
def maxI : List Int → Option Int
  | [] => none
  | n :: ns => some (ns.foldl max n)
theorem foldl_min_le : ∀ (ns : List Int) (n : Int), ns.foldl min n ≤ n ∧ ∀ y ∈ ns, ns.foldl min n ≤ y
  | [], n => ⟨Int.le_refl n, fun y h => by cases h⟩
  | a :: ns, n => by
    have ih := foldl_min_le ns (min n a)
    rw [List.foldl_cons]
    refine ⟨by omega, fun y hy => ?_⟩
    rcases List.mem_cons.mp hy with e | hy
    · subst e; omega
    · exact ih.2 y hy
theorem foldl_min_mem : ∀ (ns : List Int) (n : Int), ns.foldl min n = n ∨ ns.foldl min n ∈ ns
  | [], n => .inl rfl
  | a :: ns, n => by
    rw [List.foldl_cons]
    rcases foldl_min_mem ns (min n a) with h | h
    · rw [h]
      rcases Int.le_total n a with q | q
      · exact .inl (Int.min_eq_left q)
      · exact .inr (by rw [Int.min_eq_right q]; exact List.mem_cons_self)
    · exact .inr (List.mem_cons_of_mem _ h)
theorem foldl_max_le : ∀ (ns : List Int) (n : Int), n ≤ ns.foldl max n ∧ ∀ y ∈ ns, y ≤ ns.foldl max n
  | [], n => ⟨Int.le_refl n, fun y h => by cases h⟩
  | a :: ns, n => by
    have ih := foldl_max_le ns (max n a)
    rw [List.foldl_cons]
    refine ⟨by omega, fun y hy => ?_⟩
    rcases List.mem_cons.mp hy with e | hy
    · subst e; omega
    · exact ih.2 y hy
theorem foldl_max_mem : ∀ (ns : List Int) (n : Int), ns.foldl max n = n ∨ ns.foldl max n ∈ ns
  | [], n => .inl rfl
  | a :: ns, n => by
    rw [List.foldl_cons]
    rcases foldl_max_mem ns (max n a) with h | h
    · rw [h]
      rcases Int.le_total n a with q | q
      · exact .inr (by rw [Int.max_eq_right q]; exact List.mem_cons_self)
      · exact .inl (Int.max_eq_left q)
    · exact .inr (List.mem_cons_of_mem _ h)
def minD : List D → Option D
  | [.int i, .int j] => some (.int (if j < i then j else i))
  | [.list ds] => (intsOf ds).bind fun ns => (minI ns).map .int
  | _ => none
def maxD : List D → Option D
  | [.int i, .int j] => some (.int (if j > i then j else i))
  | [.list ds] => (intsOf ds).bind fun ns => (maxI ns).map .int
  | _ => none
theorem two_or_list {K : PySem.W.Frag} {F : Hp} {vs : List V} {ds : List D} {d : D} {h : List D → Option D} {k2 : Int → Int → Option D} {k : List D → Option D} (hh : ∀ ds, h ds = match ds with | [.int i, .int j] => k2 i j | [.list es] => k es | _ => none) (r : RpL K F vs ds) (hd : h ds = some d) :
    (∃ i j, vs = [.int i, .int j] ∧ k2 i j = some d) ∨ ∃ a us es, vs = [.ref a] ∧ SqL K F a us ∧ RpL K F us es ∧ k es = some d := by
  rw [hh] at hd
  cases r with
  | nil => cases hd
  | cons r1 r =>
    cases r with
    | cons r2 r =>
      cases r with
      | nil => cases r1 <;> cases r2 <;> first | (cases hd; done) | exact .inl ⟨_, _, rfl, hd⟩
      | cons _ _ => cases r1 <;> cases r2 <;> cases hd
    | nil =>
      cases r1 with
      | lst h rl => exact .inr ⟨_, _, _, rfl, h, rl, hd⟩
      | _ => cases hd
theorem cb_min (hc : X.calm = true := by rfl) : CbD X (.builtin "min") minD := by
  refine ⟨_, CallR.or (call_min2 hc) (cr_min hc), ?_⟩
  intro W bv e σ F H fp vs ds Q S r q
  obtain ⟨d, hd, q'⟩ := q.lif
  rcases two_or_list (h := minD) (k2 := fun i j => some (.int (if j < i then j else i))) (k := fun ds => (intsOf ds).bind fun ns => (minI ns).map .int) (fun ds => by unfold minD; rfl) r hd with ⟨i, j, rfl, h⟩ | ⟨a, us, es, rfl, h1, h2, h3⟩
  · cases h
    exact .inl ⟨i, j, rfl, AtG.here (r := rD X.K) S q' (.int _)⟩
  · obtain ⟨ns, h4, h5⟩ := Option.bind_eq_some_iff.mp h3
    obtain ⟨m, h6, rfl⟩ := Option.map_eq_some_iff.mp h5
    cases ns with
    | nil => cases h6
    | cons n ns =>
      cases h6
      refine .inr ⟨a, n :: ns, rfl, by rw [← h2.ints h4]; exact S.sub.l h1, Nat.succ_pos _, fun m hm hle => ?_⟩
      have : m = ns.foldl min n := by
        have hl := foldl_min_le ns n
        have hmem : ns.foldl min n ∈ n :: ns := (foldl_min_mem ns n).elim (fun e => by rw [e]; exact List.mem_cons_self) (List.mem_cons_of_mem _)
        have a1 := hle _ hmem
        have a2 : ns.foldl min n ≤ m := (List.mem_cons.mp hm).elim (fun e => by rw [e]; exact hl.1) (hl.2 m)
        omega
      rw [this]
      exact AtG.here (r := rD X.K) S q' (.int _)
theorem cb_max (hc : X.calm = true := by rfl) : CbD X (.builtin "max") maxD := by
  refine ⟨_, CallR.or (call_max2 hc) (cr_max hc), ?_⟩
  intro W bv e σ F H fp vs ds Q S r q
  obtain ⟨d, hd, q'⟩ := q.lif
  rcases two_or_list (h := maxD) (k2 := fun i j => some (.int (if j > i then j else i))) (k := fun ds => (intsOf ds).bind fun ns => (maxI ns).map .int) (fun ds => by unfold maxD; rfl) r hd with ⟨i, j, rfl, h⟩ | ⟨a, us, es, rfl, h1, h2, h3⟩
  · cases h
    exact .inl ⟨i, j, rfl, AtG.here (r := rD X.K) S q' (.int _)⟩
  · obtain ⟨ns, h4, h5⟩ := Option.bind_eq_some_iff.mp h3
    obtain ⟨m, h6, rfl⟩ := Option.map_eq_some_iff.mp h5
    cases ns with
    | nil => cases h6
    | cons n ns =>
      cases h6
      refine .inr ⟨a, n :: ns, rfl, by rw [← h2.ints h4]; exact S.sub.l h1, Nat.succ_pos _, fun m hm hle => ?_⟩
      have : m = ns.foldl max n := by
        have hl := foldl_max_le ns n
        have hmem : ns.foldl max n ∈ n :: ns := (foldl_max_mem ns n).elim (fun e => by rw [e]; exact List.mem_cons_self) (List.mem_cons_of_mem _)
        have a1 := hle _ hmem
        have a2 : m ≤ ns.foldl max n := (List.mem_cons.mp hm).elim (fun e => by rw [e]; exact hl.1) (hl.2 m)
        omega
      rw [this]
      exact AtG.here (r := rD X.K) S q' (.int _)
/-! ### tuple(x), list(x) -/
def chars (z : Str) : List D := z.cps.toList.map fun c => .str ⟨#[c]⟩
def tupleD : List D → Option D
  | [.list ds] => some (.tuple ds)
  | [.tuple ds] => some (.tuple ds)
  | [.str z] => if few z.length then some (.tuple (chars z)) else none
  | _ => none
def charsV (z : Str) : List V := z.cps.toList.map fun c => .str ⟨#[c]⟩
theorem rpl_chars {K : PySem.W.Frag} {F : Hp} : ∀ l : List Nat, RpL K F (l.map fun c => V.str ⟨#[c]⟩) (l.map fun c => .str ⟨#[c]⟩)
  | [] => .nil
  | c :: l => .cons (.str _) (rpl_chars l)
def rTupS : List V → Hp → VK → Prop := fun xs H Q => ∃ z, xs = [.str z] ∧ z.length ≤ sizeLine ∧ ∀ p, H p = none → Q (.ref p) (upd H p (.tup (charsV z)))
theorem vals_chars {z : Str} {acc : Array Value} (h : ItemsOf (SignAt z) acc z.cps.size) : Vals (charsV z) acc.toList := by
  unfold charsV
  have e : z.cps.toList.length = acc.toList.length := by rw [Array.length_toList, Array.length_toList]; exact h.1.symm
  refine vals_of_at (by rw [List.length_map]; exact e) fun j x u hx hu => ?_
  rw [List.getElem?_map] at hx
  obtain ⟨c, hc, rfl⟩ := Option.map_eq_some_iff.mp hx
  have hu' : acc[j]? = some u := by rw [← hu, Array.getElem?_toList]
  have := h.2 j u hu'
  unfold SignAt at this
  have hc' : z.cps[j]? = some c := by rw [← hc, Array.getElem?_toList]
  obtain ⟨c', t, h1, rfl⟩ := this
  rw [hc'] at h1
  cases h1
  exact ⟨_, rfl⟩
theorem call_tupS (hc : X.calm = true) : CallR X (.type "tuple") rTupS := by
  intro pins s σ H xs us Q I r h
  obtain ⟨z, rfl, hz, q⟩ := h
  obtain ⟨u, rfl, rx⟩ := vals1 r
  obtain ⟨t, rfl⟩ := rx
  refine call_tuple_str (I.ok.hd hc) z t (fun h' tk acc hk hi => ?_) hz
  have I2 : Inv X pins σ H { s with heap := h', toks := tk } := I.kept hk
  refine ⟨.ref h'.objs.size, _, I2.laid (t' := tk) (fun c o e => Heap.get?_push_of_some _ e) (Nat.le_refl _) (show ObjOk X.prog X.w _ _ _ (.tup (charsV z)) from ⟨?_, acc.toList, vals_chars hi, ?_⟩), rfl, q _ (I2.hok.fresh (Nat.le_refl _))⟩
  · unfold charsV; rw [List.length_map, Array.length_toList]; exact hz
  · rw [Array.toArray_toList]; exact PyProof.Rows.IsTup.new _ _
theorem cb_tuple (hc : X.calm = true := by rfl) : CbD X (.type "tuple") tupleD := by
  refine ⟨_, CallR.or call_tuple_of (call_tupS hc), ?_⟩
  intro W bv e σ F H fp vs ds Q S r q
  obtain ⟨d, hd, q'⟩ := q.lif
  cases r with
  | nil => cases hd
  | cons r1 r =>
    cases r with
    | cons _ _ => cases r1 <;> cases hd
    | nil =>
      cases r1 with
      | lst h rl =>
        cases hd
        refine .inl ⟨_, _, rfl, .inl ⟨S.sub.l h, fun p hp => ?_⟩⟩
        exact AtG.made (r := rD X.K) S q' hp (.tup upd_same (RpL.mono (Sub.new (S.sub.non hp)) rl))
      | tup h rl =>
        cases hd
        exact .inl ⟨_, _, rfl, .inr ⟨S.sub.t h, AtG.here (r := rD X.K) S q' (.tup h rl)⟩⟩
      | str z =>
        simp only [tupleD] at hd
        split at hd
        · rename_i hz
          cases hd
          refine .inr ⟨z, rfl, few_le hz, fun p hp => ?_⟩
          exact AtG.made (r := rD X.K) S q' hp (.tup upd_same (rpl_chars _))
        · cases hd
      | _ => cases hd
def listD : List D → Option D
  | [.list ds] => some (.list ds)
  | [.tuple ds] => some (.list ds)
  | _ => none
theorem cb_list : CbD X (.type "list") listD := by
  refine ⟨_, call_list_of, ?_⟩
  intro W bv e σ F H fp vs ds Q S r q
  obtain ⟨d, hd, q'⟩ := q.lif
  cases r with
  | nil => cases hd
  | cons r1 r =>
    cases r with
    | cons _ _ => cases r1 <;> cases hd
    | nil =>
      cases r1 with
      | lst h rl =>
        cases hd
        refine ⟨_, _, rfl, .inl (S.sub.l h), fun p hp => ?_⟩
        exact AtG.made (r := rD X.K) S q' hp (.lst (.inl (.inl upd_same)) (RpL.mono (Sub.new (S.sub.non hp)) rl))
      | tup h rl =>
        cases hd
        refine ⟨_, _, rfl, .inr (S.sub.t h), fun p hp => ?_⟩
        exact AtG.made (r := rD X.K) S q' hp (.lst (.inl (.inl upd_same)) (RpL.mono (Sub.new (S.sub.non hp)) rl))
      | _ => cases hd
/-! ### tuple(range(..)), list(range(..)) -/
def fitR (a b : Int) : Bool := small a && small b && decide ((b - a).toNat ≤ 1000000)
theorem rgOk_of {a b : Int} (h : fitR a b = true) : RgOk a b := by
  simp only [fitR, small, Bool.and_eq_true, decide_eq_true_eq] at h
  exact ⟨h.1.1.1, h.1.1.2, h.1.2.1, h.1.2.2, Nat.le_trans h.2 (by decide)⟩
theorem rpl_rg {K : PySem.W.Frag} {F : Hp} {a b : Int} : RpL K F (rgV a b) (rngDs a b) := by
  unfold rgV rngDs
  induction List.range (b - a).toNat with
  | nil => exact .nil
  | cons k l ih => exact .cons (.int _) ih
def rgD (mk : List D → D) : List D → Option D
  | [.int b] => if fitR 0 b then some (mk (rngDs 0 b)) else none
  | [.int a, .int b] => if fitR a b then some (mk (rngDs a b)) else none
  | _ => none
theorem tRg1_of {K : PySem.W.Frag} {σ : L2.St} {H : Hp} {Q : VK} {mk : List D → D} (t : tE K W bv (cbE (rgD mk) (consA fa nilA)) σ H Q) :
    tRg1 (tE K W bv fa) σ H fun i j H1 => RgOk i j ∧ ∃ e1 F1 fp1, SS K bv e1 σ F1 H1 fp1 ∧ AtG K W bv (smp (rD K)) (ret (mk (rngDs i j))) e1 σ F1 H1 fp1 Q := by
  obtain ⟨e, F, fp, S, q⟩ := t
  have q : AtG K W bv (smp (rD K)) (bnd fa fun d => lif (rgD mk [d])) e σ F H fp Q := by
    unfold AtG cbE consA nilA bnd ret at q
    unfold AtG bnd
    cases z : fa e with
    | no => rw [z] at q; exact q
    | ex _ _ _ => rw [z] at q; exact q
    | ok d e1 => rw [z] at q; exact q
  refine tG.mono (AtG.bnd' (r := rD K) S q) fun x H1 ⟨d, e1, F1, fp1, _, S1, r1, q1⟩ => ?_
  obtain ⟨d', hd, q2⟩ := q1.lif
  cases r1 with
  | int b =>
    simp only [rgD] at hd
    split at hd
    · rename_i hz
      cases hd
      exact ⟨b, rfl, rgOk_of hz, e1, F1, fp1, S1, q2⟩
    · cases hd
  | _ => cases hd
theorem de_tupRg1 {p1 p2 : Pos} (hm : X.mg "tuple" = none) (hm2 : X.mg "range" = none) (ha : DE X W bv a fa) (hg : Gl X "tuple" := by rfl) (hg2 : Gl X "range" := by rfl) (hc : X.calm = true := by rfl) (na : starEach [a] X.env = (false, eval a X.env) :: starEach [] X.env := by rfl)
    (na2 : starEach [Expr.Call (.Name "range" p1) [a] [] p2] X.env = (false, eval (Expr.Call (.Name "range" p1) [a] [] p2) X.env) :: starEach [] X.env := by rfl) :
    DE X W bv (.Call (.Name "tuple" p) [.Call (.Name "range" p1) [a] [] p2] [] pos) (cbE (rgD .tuple) (consA fa nilA)) :=
  pe_imp (pe_tupRg hc hg hm (prg_1 hg2 hm2 ha na) na2) fun σ H Q t => by
    refine tG.mono (tRg1_of t) fun x H1 ⟨j, hj, ok, e1, F1, fp1, S1, q⟩ => ⟨j, hj, ok, fun p hp => ?_⟩
    exact AtG.made (r := rD X.K) S1 q hp (.tup upd_same rpl_rg)
theorem de_lstRg1 {p1 p2 : Pos} (hm : X.mg "list" = none) (hm2 : X.mg "range" = none) (ha : DE X W bv a fa) (hg : Gl X "list" := by rfl) (hg2 : Gl X "range" := by rfl) (hc : X.calm = true := by rfl) (na : starEach [a] X.env = (false, eval a X.env) :: starEach [] X.env := by rfl)
    (na2 : starEach [Expr.Call (.Name "range" p1) [a] [] p2] X.env = (false, eval (Expr.Call (.Name "range" p1) [a] [] p2) X.env) :: starEach [] X.env := by rfl) :
    DE X W bv (.Call (.Name "list" p) [.Call (.Name "range" p1) [a] [] p2] [] pos) (cbE (rgD .list) (consA fa nilA)) :=
  pe_imp (pe_listRg hc hg hm (prg_1 hg2 hm2 ha na) na2) fun σ H Q t => by
    refine tG.mono (tRg1_of t) fun x H1 ⟨j, hj, ok, e1, F1, fp1, S1, q⟩ => ⟨j, hj, ok, fun p hp => ?_⟩
    exact AtG.made (r := rD X.K) S1 q hp (.lst (.inl (.inl upd_same)) rpl_rg)
/-! ### isinstance -/
def tyD : D → String
  | .none => "NoneType"
  | .bool _ => "bool"
  | .int _ => "int"
  | .str _ => "str"
  | .list _ => "list"
  | .tuple _ => "tuple"
  | _ => "dict"
def rIsiDT (K : PySem.W.Frag) : List V → Hp → VK → Prop := fun xs H Q => ∃ (a : Addr) (kvs : List (List Key × V)) (c : V) (u : Value) (b : Bool), xs = [.ref a, c] ∧ ClsV c u ∧ Rd H a (.dT kvs) ∧ PySem.W.kitOne K (.type "dict") u = some b ∧ Q (.bl b) H
theorem call_isiDT : CallR X (.builtin "isinstance") (rIsiDT X.K) := by
  intro pins s σ H xs us Q I r h
  obtain ⟨a, kvs, c, u, b, rfl, k, hd, e, q⟩ := h
  obtain ⟨u1, u2, rfl, r1, r2⟩ := vals2 r
  obtain rfl := k.eq r2
  cases (show u1 = Value.ref a from r1)
  obtain ⟨_, _, xs', _, o, es', ep, h1, h2, _⟩ := dt_rd I.hok hd
  exact PySem.W.kia_one PySem.W.kitx_dict I.kIn ⟨o, h1, h2.1⟩ e (fun z => nomatch z) fun tk => ⟨.bl b, H, I.tok tk, rfl, q⟩
theorem Rp.ty {K : PySem.W.Frag} {F H : Hp} (s : Sub F H) {v : V} {d : D} (r : Rp K F v d) : TyX K H v (.type (tyD d)) ∨ (tyD d = "dict" ∧ ∃ a kvs, v = .ref a ∧ Rd H a (.dT kvs)) := by
  cases r with
  | non => exact .inl (.base .non)
  | bl b => exact .inl (.base (.bl b))
  | int i => exact .inl (.base (.int i))
  | str x => exact .inl (.base (.str x))
  | lst h _ =>
    rcases s.l h with (q | ⟨o, q⟩) | ⟨o, its, n, hk, hcl, _⟩
    · exact .inl (.base (.lst q))
    · exact .inl (.base (.frz q))
    · exact .inl (.kList hk hcl)
  | tup h _ => exact .inl (.base (.tup (s.tp _ _ h)))
  | dK h _ _ =>
    rcases s.rd _ _ h with q | ⟨o, q⟩
    · exact .inl (.base (.dK q))
    · exact .inl (.fDict q)
  | dT h _ _ => exact .inr ⟨rfl, _, _, rfl, s.rd _ _ h⟩
/-- whether data is of a built-in type -/
def isiS (t T : String) : Bool := (t == T) || (T == "int" && t == "bool")
def isiB (T : String) (d : D) : Bool := isiS (tyD d) T
def isiD (T : String) (d : D) : Option D := some (.bool (isiB T d))
def tys : List String := ["NoneType", "bool", "int", "str", "list", "tuple", "dict"]
theorem tyD_in (d : D) : tyD d ∈ tys := by cases d <;> simp [tyD, tys]
def KitD (T : String) : Prop := ∀ t ∈ tys, kitB t T = some (isiS t T)
theorem kit_int : KitD "int" := by unfold KitD; decide +kernel
theorem kit_bool : KitD "bool" := by unfold KitD; decide +kernel
theorem kit_str : KitD "str" := by unfold KitD; decide +kernel
theorem kit_list : KitD "list" := by unfold KitD; decide +kernel
theorem kit_tuple : KitD "tuple" := by unfold KitD; decide +kernel
theorem kit_dict : KitD "dict" := by unfold KitD; decide +kernel
theorem de_isi {T : String} {y : Str} {py : Pos} (hk : KitD T) (hm : X.mg "isinstance" = none) (hmT : X.mg y = none) (ha : DE X W bv a fa) (hy : bootBuiltins y = some (.type T) := by rfl) (hg : Gl X "isinstance" := by rfl) (hgy : Gl X y := by rfl) (hny : y ≠ "__name__" := by decide) (hdy : (y == ("__debug__" : Str)) = false := by decide)
    (he : starEach [a, .Name y py] X.env = (false, eval a X.env) :: starEach [.Name y py] X.env := by rfl) (he2 : starEach [.Name y py] X.env = (false, eval (.Name y py) X.env) :: starEach [] X.env := by rfl) (hpl : (backTo pos (starEach [.Name y py] X.env)).any (·.1) = false := by rfl) :
    DE X W bv (.Call (.Name "isinstance" p) [a, .Name y py] [] pos) (un (isiD T) fa) :=
  pe_imp (pe_callB (CallR.or call_isi call_isiDT) hg hm (by rfl) (pa_cons ha (pa_cons (pe_bltn (v := .ty T) hgy hmT hy rfl hny hdy) pa_nil he2) he) (by decide) (by decide) he hpl) fun σ H Q t => by
    refine tG.mono (tG.bnd (r := rD X.K) t) fun x H1 ⟨d, e1, F1, fp1, S1, r1, q1⟩ => ?_
    have q2 := AtG.here (r := rD X.K) S1 q1 (.bl (isiB T d))
    rcases Rp.ty S1.sub r1 with h | ⟨h, a, kvs, rfl, hr⟩
    · exact .inl ⟨x, .ty T, _, _, _, rfl, .ty T, h, kit_ty (hk _ (tyD_in d)), q2⟩
    · exact .inr ⟨a, kvs, .ty T, _, _, rfl, .ty T, hr, kit_ty (by rw [← h]; exact hk _ (tyD_in d)), q2⟩
/-! ### repr of lists and tuples -/
def isSq : D → Bool
  | .list _ => true
  | .tuple _ => true
  | _ => false
def repOk (d : D) : Bool := isSq d && d.canLay0 && d.showable && d.intsShort 13 && decide (d.depth ≤ 40) && decide (d.weight ≤ 2 ^ 20)
def reprD : List D → Option D
  | [d] => if repOk d then some (.str d.shown) else none
  | _ => none
def rRepr (K : PySem.W.Frag) : List V → Hp → VK → Prop := fun xs H Q => ∃ (v : V) (d : D), xs = [v] ∧ Dp K H v d ∧ repOk d = true ∧ Q (.str d.shown) H
theorem call_reprD {k : Nat} (hg : X.A.guards = some []) (hr : Room k X.A) : CallR X (.builtin "repr") (rRepr X.K) := by
  intro pins s σ H xs us Q I r h
  obtain ⟨v, d, rfl, hd, ok, q⟩ := h
  obtain ⟨u, rfl, rx⟩ := vals1 r
  obtain ⟨as, rd⟩ := Dp.reads I d v u hd rx
  simp only [repOk, Bool.and_eq_true, decide_eq_true_eq] at ok
  obtain ⟨⟨⟨⟨⟨sq, cl⟩, sh⟩, is⟩, dp⟩, wt⟩ := ok
  have href : ∃ a, u = Value.ref a := by
    cases hd <;> first | (cases sq; done) | exact ⟨_, rx⟩
  obtain ⟨a, rfl⟩ := href
  have nd := PyData.hasDict_of_canLay d cl
  have lay : d.layable0 = true := by
    unfold PyData.layable0
    rw [cl, decide_eq_true (show d.depth ≤ 64 by omega), decide_eq_true wt]
    rfl
  refine repr_of_reads' rd sh (fun z => by rw [nd] at z; cases z) hg (by have := hr.un; omega) (fun b o z => z) (fun h' u' tk hk => ?_) (Nat.le_trans (PyProof.Rows.shown_le13 lay is) (by decide))
  exact ⟨.str d.shown, H, I.kept hk, ⟨_, rfl⟩, q⟩
theorem cb_repr {k : Nat} (hg : X.A.guards = some []) (hr : Room k X.A) : CbD X (.builtin "repr") reprD := by
  refine ⟨_, call_reprD hg hr, ?_⟩
  intro W bv e σ F H fp vs ds Q S r q
  obtain ⟨d, hd, q'⟩ := q.lif
  cases r with
  | nil => cases hd
  | cons r1 r =>
    cases r with
    | cons _ _ => cases hd
    | nil =>
      rename_i v d1
      simp only [reprD] at hd
      split at hd
      · rename_i hz
        cases hd
        have cl : d1.canLay0 = true := by
          simp only [repOk, Bool.and_eq_true] at hz
          exact hz.1.1.1.1.2
        exact ⟨v, d1, rfl, r1.dp S.sub cl, hz, AtG.here (r := rD X.K) S q' (.str _)⟩
      · cases hd
/-! ### seq * n -/
def repL (ds : List D) (k : Int) : List D := (List.replicate k.toNat ds).flatten
def mulD : D → D → Option D
  | .tuple ds, .int k => if !ds.isEmpty && decide (2 ≤ k) && decide (k ≤ 1000) && decide (ds.length ≤ 1000) then some (.tuple (repL ds k)) else none
  | x, y => mulI x y
theorem RpL.rep {K : PySem.W.Frag} {F : Hp} {vs : List V} {ds : List D} (r : RpL K F vs ds) : ∀ n : Nat, RpL K F (List.replicate n vs).flatten (List.replicate n ds).flatten
  | 0 => .nil
  | n + 1 => by
    rw [List.replicate_succ, List.replicate_succ, List.flatten_cons, List.flatten_cons]
    exact r.append (RpL.rep r n)
theorem od_mul : OpD X (binaryOp .Mult) mulD := by
  obtain ⟨r, hr, hv⟩ := od_mulI (X := X)
  refine ⟨_, OpR.or hr op_repT, ?_⟩
  intro W bv e σ F H fp x y d1 d2 Q S r1 r2 q
  have r1' := r1
  have r2' := r2
  cases r1 with
  | tup h rl =>
    cases r2 with
    | int k =>
      obtain ⟨d, hd, q'⟩ := q.lif
      simp only [mulD] at hd
      split at hd
      · rename_i hz
        cases hd
        simp only [Bool.and_eq_true, decide_eq_true_eq, Bool.not_eq_true', List.isEmpty_eq_false_iff] at hz
        refine .inr ⟨_, k, _, rfl, rfl, S.sub.t h, fun z => ?_, hz.1.1.2, hz.1.2, by rw [rl.length]; exact hz.2, fun p hp => ?_⟩
        · subst z
          cases rl
          exact hz.1.1.1 rfl
        · exact AtG.made (r := rD X.K) S q' hp (.tup upd_same (RpL.mono (Sub.new (S.sub.non hp)) (rl.rep _)))
      · cases hd
    | _ => exact .inl (hv W bv e σ F H fp _ _ _ _ Q S r1' r2' q)
  | _ => exact .inl (hv W bv e σ F H fp _ _ _ _ Q S r1' r2' (by cases r2 <;> exact q))
/-- [..] * n -/
def repE (fs : EM (List D)) (fb : EM D) : EM D := bnd fs fun ds => if few ds.length then bnd fb fun k => lif (match k with
  | .int k => if decide (-(2 ^ 63) ≤ k) && decide (k < 2 ^ 63) && few (ds.length * k.toNat) then some (.list (repL ds k)) else none
  | _ => none) else lif none
theorem de_rep {pl : Pos} (ha : DA X W bv es fs) (hb : DE X W bv b fb) : DE X W bv (.BinOp (.List es pl) .Mult b pos) (repE fs fb) :=
  pe_imp (pe_op op_rep (pe_lst ha) hb) fun σ H Q t => by
    refine tG.mono (tG.bnd (r := rL X.K) t) fun xs H1 ⟨ds, e1, F1, fp1, S1, r1, q1⟩ => ?_
    by_cases hz : few ds.length = true
    · rw [if_pos hz] at q1
      refine ⟨by rw [RpL.length r1]; exact few_le hz, fun p hp => ?_⟩
      have nF : F1 p = none := S1.sub.non hp
      have S2 : SS X.K bv e1 σ F1 (upd H1 p (.lst xs)) fp1 := S1.heap (Sub.refl F1) (S1.sub.mut nF) (fun i a o h q => by rw [upd_ne (ne_of_none q hp)]; exact q) S1.fr
      have q2 := AtG.bnd (r := rD X.K) (AtG.back (Stp.grow (o := .lst xs) (Stp.refl F1 H1 (Pf fp1)) hp) q1)
      refine tG.mono (⟨e1, _, fp1, S2, q2⟩ : tE X.K W bv fb σ _ _) fun y H3 ⟨k, e3, F3, fp3, _, s3, S3, r3, q3⟩ => ?_
      have hk : H3 p = some (.lst xs) := s3.keep p _ upd_same (fun ⟨i, hi⟩ => by
        obtain ⟨o, ho⟩ := S1.live hi
        rw [hp] at ho
        cases ho) (.inl nF)
      obtain ⟨d, hd, q4⟩ := q3.lif
      cases r3 with
      | int k =>
        dsimp only at hd
        split at hd
        · rename_i hc
          cases hd
          simp only [Bool.and_eq_true, decide_eq_true_eq] at hc
          refine ⟨p, k, xs, rfl, rfl, hk, hc.1.1, hc.1.2, by rw [RpL.length r1]; exact few_le hc.2, fun p' hp' => ?_⟩
          exact AtG.made (r := rD X.K) S3 q4 hp' (.lst (.inl (.inl upd_same)) (RpL.mono (Sub.new (S3.sub.non hp')) ((RpL.mono s3.ext r1).rep _)))
        · cases hd
      | _ => cases hd
    · rw [if_neg hz] at q1
      exact q1.elim
end
end FD

/-! FD: things that a slot owns: made, read, changed. -/
namespace FD
open PySem L2
section
variable {K : PySem.W.Frag} {W : WX} {bv : Nat → Option V} {e : Env} {σ : L2.St} {F H : Hp} {fp : Nat → List Addr}
theorem AtG.mkM {m : M} {Q : VK} {p : Addr} {o : HO} (S : SS K bv e σ F H fp) (h : AtG K W bv (rM K) (FD.ret m) e σ F H fp Q) (hp : H p = none) (ho : Own K F (upd H p o) (.ref p) m [p]) : Q (.ref p) (upd H p o) := by
  have np : ¬ Pf fp p := fun ⟨i, hi⟩ => by
    obtain ⟨u, hu⟩ := S.live hi
    rw [hp] at hu
    cases hu
  refine h (.ref p) F (upd H p o) fp (fun a => Pf fp a ∨ a ∈ [p]) ⟨Sub.refl F, fun a u q _ _ => by rw [upd_ne (ne_of_none q hp)]; exact q, fun a q => ?_, fun a q => .inl q, fun a q => ?_⟩ (S.heap (Sub.refl F) (S.sub.mut (S.sub.non hp)) (fun i a u ha q => by rw [upd_ne (ne_of_none q hp)]; exact q) S.fr) ⟨[p], rfl, ho, by simp, fun a ha => ?_, fun a ha => ?_⟩
  · by_cases z : a = p
    · subst z; exact hp
    · rw [upd_ne z] at q; exact q
  · rcases q with q | q
    · exact .inl q
    · rw [List.mem_singleton] at q
      subst q
      exact .inr hp
  · rw [List.mem_singleton] at ha
    subst ha
    exact np
  · rw [List.mem_singleton] at ha
    subst ha
    exact S.sub.non hp
theorem put_self {i : Nat} : put fp i (fp i) = fp := by
  funext j
  by_cases h : j = i
  · subst h; exact put_same
  · exact put_ne h
/-- the object at a, the head of what slot i owns, becomes another -/
theorem SS.upH {i : Nat} {a : Addr} {fpl : List Addr} {o : HO} {m : M} (S : SS K bv e σ F H fp) (hi : i < e.length) (hv : σ[i]? = some (some (.ref a))) (hf : fp i = a :: fpl) (ho : Own K F (upd H a o) (.ref a) m (a :: fpl)) :
    SS K bv (e.set i (some m)) σ F (upd H a o) fp ∧ Stp F H (Pf fp) F (upd H a o) (Pf fp) := by
  have ha : F a = none := S.fr i a (by rw [hf]; exact List.mem_cons_self)
  have hm : a ∈ fp i := by rw [hf]; exact List.mem_cons_self
  have off : ∀ j, j ≠ i → ∀ b ∈ fp j, b ≠ a := fun j n b hb z => n (S.dj j i b hb (by rw [z]; exact hm))
  constructor
  · have q := S.put (H' := upd H a o) (Sub.refl F) (S.sub.mut ha) hi hv (fun _ _ => rfl) rfl (fun u hu => by
      have z := S.bor i u hu
      rw [hv] at z
      cases z
      rfl) ho (hf ▸ S.nd i) (fun b hb => S.fr i b (by rw [hf]; exact hb)) (fun j n b hb z => n (S.dj j i b hb (by rw [hf]; exact z))) (fun j n b hb u hu => by rw [upd_ne (off j n b hb)]; exact hu) (fun j _ b hb => S.fr j b hb)
    rw [← hf, put_self] at q
    exact q
  · refine ⟨Sub.refl F, fun b u hb n _ => ?_, fun b hb => ?_, fun b hb => .inl hb, fun b hb => .inl hb⟩
    · rw [upd_ne fun z => n ⟨i, by rw [z]; exact hm⟩]
      exact hb
    · by_cases z : b = a
      · rw [z, upd_same] at hb; cases hb
      · rw [upd_ne z] at hb; exact hb
theorem OwnL.other {a : Addr} {o : HO} {vs : List V} {ms : List M} {fpl : List Addr} (h : OwnL K F H vs ms fpl) (n : a ∉ fpl) : OwnL K F (upd H a o) vs ms fpl :=
  h.mono (Sub.refl F) fun b hb u hu => by rw [upd_ne fun z => n (by rw [← z]; exact hb)]; exact hu
theorem OwnL.snoc {v : V} {d : D} (r : Rp K F v d) : ∀ {vs : List V} {ms : List M} {fpl : List Addr}, OwnL K F H vs ms fpl → OwnL K F H (vs ++ [v]) (ms ++ [.im d]) fpl
  | _, _, _, .nil => OwnL.cons (fp := []) (fq := []) (.im r) .nil
  | _, _, _, .cons h t => .cons h (OwnL.snoc r t)
theorem OwnL.set {v : V} {d : D} (r : Rp K F v d) : ∀ {vs : List V} {ms : List M} {fpl : List Addr} {j : Nat} {d0 : D}, OwnL K F H vs ms fpl → ms[j]? = some (.im d0) → OwnL K F H (vs.set j v) (ms.set j (.im d)) fpl
  | _, _, _, _, _, .nil, h => by simp at h
  | _, _, _, 0, _, .cons h t, q => by
    simp at q
    subst q
    cases h
    exact OwnL.cons (fp := []) (.im r) t
  | _, _, _, j + 1, _, .cons h t, q => .cons h (OwnL.set r t (by simpa using q))
/-- what slot i owns, a list -/
theorem SS.lsAt {i : Nat} {ms : List M} (S : SS K bv e σ F H fp) (he : e[i]? = some (some (.ls ms))) : ∃ a vs fpl, σ[i]? = some (some (.ref a)) ∧ H a = some (.lst vs) ∧ fp i = a :: fpl ∧ OwnL K F H vs ms fpl ∧ a ∉ fpl := by
  obtain ⟨v, hv, o⟩ := S.own i _ he
  have nd := S.nd i
  generalize hl : fp i = l at o nd
  cases o with
  | ls h r => exact ⟨_, _, _, hv, h, rfl, r, (List.nodup_cons.mp nd).1⟩
theorem SS.dtAt {i : Nat} {kms : List (List Key × M)} (S : SS K bv e σ F H fp) (he : e[i]? = some (some (.dt kms))) : ∃ a kvs fpl, σ[i]? = some (some (.ref a)) ∧ H a = some (.dT kvs) ∧ fp i = a :: fpl ∧ kvs.map (·.1) = kms.map (·.1) ∧ OwnL K F H (kvs.map (·.2)) (kms.map (·.2)) fpl ∧ a ∉ fpl := by
  obtain ⟨v, hv, o⟩ := S.own i _ he
  have nd := S.nd i
  generalize hl : fp i = l at o nd
  cases o with
  | dt h k r => exact ⟨_, _, _, hv, h, rfl, k, r, (List.nodup_cons.mp nd).1⟩
theorem SS.dkAt {i : Nat} {kms : List (Key × M)} (S : SS K bv e σ F H fp) (he : e[i]? = some (some (.dk kms))) : ∃ a kvs fpl, σ[i]? = some (some (.ref a)) ∧ H a = some (.dK kvs) ∧ fp i = a :: fpl ∧ kvs.map (·.1) = kms.map (·.1) ∧ OwnL K F H (kvs.map (·.2)) (kms.map (·.2)) fpl ∧ a ∉ fpl := by
  obtain ⟨v, hv, o⟩ := S.own i _ he
  have nd := S.nd i
  generalize hl : fp i = l at o nd
  cases o with
  | dk h k r => exact ⟨_, _, _, hv, h, rfl, k, r, (List.nodup_cons.mp nd).1⟩
end

/-! ### new things to own -/
def lstM (fs : EM (List D)) : EM M := bnd fs fun ds => if few ds.length then ret (.ls (ds.map .im)) else fun _ => .no
def dtM : EM M := ret (.dt [])
def dkM : EM M := ret (.dk [])
def catM (fa fb : EM D) : EM M := bnd fa fun x => bnd fb fun y => match x, y with
  | .list xs, .list ys => if few (xs.length + ys.length) then ret (.ls ((xs ++ ys).map .im)) else fun _ => .no
  | _, _ => fun _ => .no
section
variable {X : Cx} {W : WX} {bv : Nat → Option V} {pos : Pos} {a b : Expr} {es : List Expr} {fa fb : EM D} {fs : EM (List D)} {ta : EM Bool}
theorem dm_lst (h : DA X W bv es fs) : DM X W bv (.List es pos) (lstM fs) :=
  pe_imp (pe_lst h) fun σ H Q t => by
    refine tG.mono (tG.bnd (r := rL X.K) t) fun xs H1 ⟨ds, e1, F1, fp1, S1, r1, q1⟩ => ?_
    by_cases hz : few ds.length = true
    · rw [if_pos hz] at q1
      refine ⟨by rw [RpL.length r1]; exact few_le hz, fun p hp => ?_⟩
      exact AtG.mkM S1 q1 hp (Own.ls (fp := []) upd_same (OwnL.ims r1))
    · rw [if_neg hz] at q1
      exact q1.elim
theorem dm_dt : DM X W bv (.Dict [] [] pos) dtM := pe_imp pe_dnewT fun σ H Q ⟨e, F, fp, S, q⟩ p hp => AtG.mkM S q hp (Own.dt (fp := []) upd_same rfl .nil)
theorem dm_dk : DM X W bv (.Dict [] [] pos) dkM := pe_imp pe_dnewK fun σ H Q ⟨e, F, fp, S, q⟩ p hp => AtG.mkM S q hp (Own.dk (fp := []) upd_same rfl .nil)
theorem dm_cat (ha : DE X W bv a fa) (hb : DE X W bv b fb) : DM X W bv (.BinOp a .Add b pos) (catM fa fb) :=
  pe_imp (pe_op op_catL ha hb) fun σ H Q t => by
    refine tG.mono (tG.bnd (r := rD X.K) t) fun x H1 ⟨d1, e1, F1, fp1, S1, r1, q1⟩ => ?_
    refine tG.mono (AtG.bnd' (r := rD X.K) S1 q1) fun y H2 ⟨d2, e2, F2, fp2, s2, S2, r2, q2⟩ => ?_
    have r1' := Rp.mono s2 r1
    cases r1' with
    | lst h1 g1 =>
      cases r2 with
      | lst h2 g2 =>
        dsimp only at q2
        split at q2
        · rename_i z
          refine ⟨_, _, _, _, rfl, rfl, S2.sub.l h1, S2.sub.l h2, by rw [g1.length, g2.length]; exact few_le z, fun p hp => ?_⟩
          exact AtG.mkM S2 q2 hp (Own.ls (fp := []) upd_same (OwnL.ims (g1.append g2)))
        · exact q2.elim
      | _ => exact q2.elim
    | _ => exact q2.elim
/-- data, as a thing to own: flat or not, nobody changes it -/
def imM (f : EM D) : EM M := bnd f fun d => ret (.im d)
theorem dm_d (h : DE X W bv a fa) : DM X W bv a (imM fa) :=
  pe_imp h fun σ H Q t => by
    obtain ⟨e, F, fp, S, q⟩ := t
    refine tG.mono (⟨e, F, fp, S, ?_⟩ : tE X.K W bv fa σ H fun x H1 => ∃ d e1 F1 fp1, SS X.K bv e1 σ F1 H1 fp1 ∧ Rp X.K F1 x d ∧ AtG X.K W bv (rM X.K) (ret (.im d)) e1 σ F1 H1 fp1 Q) fun x H1 ⟨d, e1, F1, fp1, S1, r1, q1⟩ => q1 x F1 H1 fp1 (Pf fp1) (Stp.refl _ _ _) S1 (rM_im r1)
    unfold AtG imM bnd at q
    unfold AtG
    cases z : fa e with
    | no => rw [z] at q; exact q
    | ex _ _ _ => rw [z] at q; exact q
    | ok d e1 =>
      rw [z] at q
      intro x F1 H1 fp1 P1 s1 S1 r1
      obtain ⟨rfl, r1⟩ := r1
      exact ⟨d, e1, F1, fp1, S1, r1, fun x' F' H' fp' P' s' S' r' => q x' F' H' fp' P' (s1.trans s') S' r'⟩
end
end FD

/-! FD: what is owned, read and changed in place. -/
namespace FD
open PySem L2
/-- slot i holds something -/
def has (i : Nat) (e : Env) : Bool := match e[i]? with
  | some (some _) => true
  | _ => false
def chk {α : Type} (i : Nat) (f : EM α) : EM α := fun e => if has i e then f e else .no
/-- what slot i holds, as data, left as it is -/
def peekD (i : Nat) (e : Env) : Option D := match e[i]? with
  | some (some m) => m.toD
  | _ => none
/-- an operation whose answer has no address -/
def OpP (K : PySem.W.Frag) (r : R2) (g : D → D → Option D) : Prop := ∀ (F H : Hp) (x y : V) (d1 d2 d : D) (Q : VK), Sub F H → Rp K F x d1 → Rp K F y d2 → g d1 d2 = some d → flatD d = true ∧ (Q (flatOf d) H → r x y H Q)
section
variable {K : PySem.W.Frag} {W : WX} {bv : Nat → Option V} {e : Env} {σ : L2.St} {F H : Hp} {fp : Nat → List Addr} {α τ : Type}
theorem chk_tG {i : Nat} {R : RG τ α} {f : EM α} {Q : τ → Hp → Prop} (t : tG K W bv R (chk i f) σ H Q) : ∃ v, σ[i]? = some (some v) ∧ tG K W bv R f σ H Q := by
  obtain ⟨e, F, fp, S, q⟩ := t
  unfold AtG chk has at q
  cases h : e[i]? with
  | none => rw [h] at q; exact q.elim
  | some o =>
    cases o with
    | none => rw [h] at q; exact q.elim
    | some m =>
      rw [h] at q
      obtain ⟨v, hv, _⟩ := S.own i m h
      exact ⟨v, hv, e, F, fp, S, q⟩
theorem chk_S {i : Nat} {f : EM Flow} {D : Ends} (t : tS K W bv (chk i f) D σ H) : ∃ v, σ[i]? = some (some v) ∧ tS K W bv f D σ H := by
  obtain ⟨e, F, fp, S, q⟩ := t
  unfold AtS chk has at q
  cases h : e[i]? with
  | none => rw [h] at q; exact q.elim
  | some o =>
    cases o with
    | none => rw [h] at q; exact q.elim
    | some m =>
      rw [h] at q
      obtain ⟨v, hv, _⟩ := S.own i m h
      exact ⟨v, hv, e, F, fp, S, q⟩
/-- the peeked data, known in a heap between F and H -/
theorem SS.peek {i : Nat} {d : D} (S : SS K bv e σ F H fp) (h : peekD i e = some d) : ∃ v, σ[i]? = some (some v) ∧ Rp K (ov H F (fp i)) v d ∧ Sub F (ov H F (fp i)) ∧ Sub (ov H F (fp i)) H := by
  unfold peekD at h
  cases he : e[i]? with
  | none => rw [he] at h; cases h
  | some o =>
    cases o with
    | none => rw [he] at h; cases h
    | some m =>
      rw [he] at h
      obtain ⟨v, hv, o⟩ := S.own i m he
      exact ⟨v, hv, o.frozen (fun a z => S.fr i a z) h, Sub.ov fun a z => S.fr i a z, S.sub.of_ov⟩
end
section
variable {X : Cx} {W : WX} {bv : Nat → Option V} {pos p px : Pos} {a b : Expr} {es : List Expr} {fa fb fc : EM D} {fs : EM (List D)} {x : Str}
/-- a function of what slot i holds, which is left as it is -/
def pk {α : Type} (i : Nat) (g : D → Option α) : EM α := fun e => match peekD i e with
  | some d => lif (g d) e
  | none => .no
theorem AtG.pk {K : PySem.W.Frag} {e : Env} {σ : L2.St} {F H : Hp} {fp : Nat → List Addr} {α τ : Type} {R : RG τ α} {i : Nat} {g : D → Option α} {Q : τ → Hp → Prop} (h : AtG K W bv R (FD.pk i g) e σ F H fp Q) : ∃ d z, peekD i e = some d ∧ g d = some z ∧ AtG K W bv R (FD.ret z) e σ F H fp Q := by
  unfold AtG FD.pk at h
  cases hp : peekD i e with
  | none => rw [hp] at h; exact h.elim
  | some d =>
    rw [hp] at h
    cases hg : g d with
    | none => dsimp only at h; rw [hg] at h; exact h.elim
    | some z => dsimp only at h; rw [hg] at h; exact ⟨d, z, rfl, hg, h⟩
/-- xs op e, e op xs; the slot is left as it is -/
def pkL (i : Nat) (g : D → D → Option D) (fb : EM D) : EM D := chk i (bnd fb fun y => pk i fun d => g d y)
def pkR (i : Nat) (g : D → D → Option D) (fa : EM D) : EM D := bnd fa fun y => chk i (pk i fun d => g y d)
theorem pkL_of {K : PySem.W.Frag} {σ : L2.St} {H : Hp} {i : Nat} {r : R2} {g : D → D → Option D} {Q : VK} (h : OpP K r g) (t : tE K W bv (pkL i g fb) σ H Q) : tOp r (tVar i) (tE K W bv fb) σ H Q := by
  obtain ⟨v, hv, e, F, fp, S, q⟩ := chk_tG t
  refine ⟨v, hv, tG.mono (AtG.bnd' (r := rD K) S q) fun y H2 ⟨d2, e2, F2, fp2, s2, S2, r2, q2⟩ => ?_⟩
  obtain ⟨d, z, hp, hg, q3⟩ := q2.pk
  obtain ⟨w, hw, rw', s3, s4⟩ := S2.peek hp
  rw [hv] at hw
  cases hw
  obtain ⟨fl, k⟩ := h _ H2 v y d d2 z Q s4 rw' (Rp.mono s3 r2) hg
  exact k (AtG.here (r := rD K) S2 q3 (Rp.flat fl))
theorem pkR_of {K : PySem.W.Frag} {σ : L2.St} {H : Hp} {i : Nat} {r : R2} {g : D → D → Option D} {Q : VK} (h : OpP K r g) (t : tE K W bv (pkR i g fa) σ H Q) : tOp r (tE K W bv fa) (tVar i) σ H Q := by
  refine tG.mono (tG.bnd (r := rD K) t) fun y H2 ⟨d2, e2, F2, fp2, S2, r2, q2⟩ => ?_
  obtain ⟨v, hv, e3, F3, fp3, S3, q3⟩ := chk_tG (⟨e2, F2, fp2, S2, q2⟩ : tE K W bv _ σ H2 Q)
  refine ⟨v, hv, ?_⟩
  have q4 : AtG K W bv (smp (rD K)) (pk i fun d => g d2 d) e2 σ F2 H2 fp2 Q := by
    unfold AtG chk at q2
    unfold AtG
    cases hh : has i e2 with
    | true => rw [hh] at q2; exact q2
    | false => rw [hh] at q2; exact q2.elim
  obtain ⟨d, z, hp, hg, q5⟩ := q4.pk
  obtain ⟨w, hw, rw', s3, s4⟩ := S2.peek hp
  rw [hv] at hw
  cases hw
  obtain ⟨fl, k⟩ := h _ H2 y v d2 d z Q s4 (Rp.mono s3 r2) rw' hg
  exact k (AtG.here (r := rD K) S2 q5 (Rp.flat fl))
theorem op_eqP : OpP X.K (fun x y H Q => rEq x y H Q ∨ rEqD X.K x y H Q) eqD := by
  intro F H x y d1 d2 d Q s r1 r2 hg
  unfold eqD eqOk at hg
  split at hg
  · rename_i hz
    cases hg
    refine ⟨rfl, fun q => ?_⟩
    by_cases h1 : scalD d1 d2 = true
    · have z := scal_eqv h1
      simp only [scalD, Bool.and_eq_true] at h1
      refine .inl ?_
      rw [r1.flat_eq h1.1.1, r2.flat_eq h1.1.2]
      refine ⟨h1.2, ?_⟩
      rw [z]
      exact q
    · rw [Bool.not_eq_true] at h1
      rw [h1, Bool.false_or, Bool.and_eq_true] at hz
      exact .inr ⟨d1, d2, r1.dp s (lay_of hz.1), r2.dp s (lay_of hz.2), hz.1, hz.2, q⟩
  · cases hg
theorem op_neP : OpP X.K (fun x y H Q => rNe x y H Q ∨ rNeD X.K x y H Q) neD := by
  intro F H x y d1 d2 d Q s r1 r2 hg
  unfold neD eqOk at hg
  split at hg
  · rename_i hz
    cases hg
    refine ⟨rfl, fun q => ?_⟩
    by_cases h1 : scalD d1 d2 = true
    · have z := scal_eqv h1
      simp only [scalD, Bool.and_eq_true] at h1
      refine .inl ?_
      rw [r1.flat_eq h1.1.1, r2.flat_eq h1.1.2]
      refine ⟨h1.2, ?_⟩
      rw [z]
      exact q
    · rw [Bool.not_eq_true] at h1
      rw [h1, Bool.false_or, Bool.and_eq_true] at hz
      exact .inr ⟨d1, d2, r1.dp s (lay_of hz.1), r2.dp s (lay_of hz.2), hz.1, hz.2, q⟩
  · cases hg
theorem de_eqP (i : Nat) {k : Nat} (hr : Room k X.A) (hb : DE X W bv b fb) (hN : X.N[i]? = some x := by rfl) (hv : Vis X.env.scope x := by first | exact Or.inl rfl | exact Or.inr (Or.inl rfl) | exact Or.inr (Or.inr rfl)) (hd : (x == ("__debug__" : Str)) = false := by decide) (hcd : (x == ("__classdict__" : Str)) = false := by decide) :
    DE X W bv (.Compare (.Name x px) [.Eq] [b] pos) (pkL i eqD fb) :=
  pe_imp (pe_cmpR (OpR.or op_eq (op_eqD hr.units)) (pe_var hN hv hd hcd) hb (by first | exact nomark _ | rfl)) fun σ H Q t => pkL_of op_eqP t
theorem de_neP (i : Nat) {k : Nat} (hr : Room k X.A) (hb : DE X W bv b fb) (hN : X.N[i]? = some x := by rfl) (hv : Vis X.env.scope x := by first | exact Or.inl rfl | exact Or.inr (Or.inl rfl) | exact Or.inr (Or.inr rfl)) (hd : (x == ("__debug__" : Str)) = false := by decide) (hcd : (x == ("__classdict__" : Str)) = false := by decide) :
    DE X W bv (.Compare (.Name x px) [.NotEq] [b] pos) (pkL i neD fb) :=
  pe_imp (pe_cmpR (OpR.or op_ne (op_neD hr.units)) (pe_var hN hv hd hcd) hb (by first | exact nomark _ | rfl)) fun σ H Q t => pkL_of op_neP t
/-! ### len(xs), xs[k] -/
def pkLen (i : Nat) : EM D := chk i (pk i fun d => lenD [d])
theorem de_lenP (i : Nat) (hm : X.mg "len" = none) (hN : X.N[i]? = some x := by rfl) (hv : Vis X.env.scope x := by first | exact Or.inl rfl | exact Or.inr (Or.inl rfl) | exact Or.inr (Or.inr rfl)) (hd : (x == ("__debug__" : Str)) = false := by decide) (hcd : (x == ("__classdict__" : Str)) = false := by decide)
    (hg : Gl X "len" := by rfl) (he : starEach [.Name x px] X.env = (false, eval (.Name x px) X.env) :: starEach [] X.env := by rfl) :
    DE X W bv (.Call (.Name "len" p) [.Name x px] [] pos) (pkLen i) :=
  pe_imp (pe_callB (CallR.or call_len_seq (CallR.or call_len_str call_lenR)) hg hm (by rfl) (pa_cons (pe_var hN hv hd hcd) pa_nil he) (by decide) (by decide) he rfl) fun σ H Q t => by
    obtain ⟨v, hv, e, F, fp, S, q⟩ := chk_tG t
    refine ⟨v, hv, ?_⟩
    obtain ⟨d, z, hp, hg, q3⟩ := q.pk
    obtain ⟨w, hw, rw', s3, s4⟩ := S.peek hp
    rw [hv] at hw
    cases hw
    have fin : ∀ n : Int, z = .int n → Q (.int n) H := fun n h => by subst h; exact AtG.here (r := rD X.K) S q3 (.int n)
    cases rw' with
    | lst h rl =>
      refine .inl ⟨_, _, rfl, .inl (s4.l h), ?_⟩
      rw [rl.length]
      exact fin _ (Option.some.inj hg).symm
    | tup h rl =>
      refine .inl ⟨_, _, rfl, .inr (s4.t h), ?_⟩
      rw [rl.length]
      exact fin _ (Option.some.inj hg).symm
    | str z' =>
      simp only [lenD] at hg
      split at hg
      · rename_i hz
        exact .inr (.inl ⟨z', rfl, few_le hz, fin _ (Option.some.inj hg).symm⟩)
      · cases hg
    | dK h k rl =>
      rename_i kvs kds
      refine .inr (.inr ⟨_, rfl, .inl ⟨_, s4.rd _ _ h, fin _ ?_⟩⟩)
      have : kvs.length = kds.length := by simpa using congrArg List.length k
      rw [this, ← List.length_map (as := kds) (f := fun p => (keyD p.1, p.2))]
      exact (Option.some.inj hg).symm
    | dT h k rl =>
      rename_i kvs kds
      refine .inr (.inr ⟨_, rfl, .inr ⟨_, s4.rd _ _ h, fin _ ?_⟩⟩)
      have : kvs.length = kds.length := by simpa using congrArg List.length k
      rw [this, ← List.length_map (as := kds) (f := fun p => (PyData.tuple (p.1.map keyD), p.2))]
      exact (Option.some.inj hg).symm
    | _ => cases hg
/-- an owned list's item that is data -/
def itemM (i : Nat) (k : Int) (e : Env) : Option D := match e[i]? with
  | some (some (.ls ms)) => match atI ms k with
    | some (.im d) => some d
    | _ => none
  | _ => none
def pkIx (i : Nat) (fb : EM D) : EM D := chk i (bnd fb fun k => match k with
  | .int k => fun e => lif (itemM i k e) e
  | _ => fun _ => .no)
theorem OwnL.get {K : PySem.W.Frag} {F H : Hp} : ∀ {vs : List V} {ms : List M} {fpl : List Addr} {j : Nat} {m : M}, OwnL K F H vs ms fpl → ms[j]? = some m → ∃ v l, vs[j]? = some v ∧ Own K F H v m l ∧ ∀ b ∈ l, b ∈ fpl
  | _, _, _, _, _, .nil, h => by simp at h
  | _, _, _, 0, _, .cons h t, q => by
    simp at q
    subst q
    exact ⟨_, _, rfl, h, fun b hb => List.mem_append_left _ hb⟩
  | _, _, _, j + 1, _, .cons h t, q => by
    obtain ⟨v, l, h1, h2, h3⟩ := OwnL.get (j := j) t (by simpa using q)
    exact ⟨v, l, by simpa using h1, h2, fun b hb => List.mem_append_right _ (h3 b hb)⟩
theorem item_at {K : PySem.W.Frag} {e : Env} {σ : L2.St} {F H : Hp} {fp : Nat → List Addr} {i : Nat} {k : Int} {d : D} (S : SS K bv e σ F H fp) (h : itemM i k e = some d) : ∃ a vs v, σ[i]? = some (some (.ref a)) ∧ H a = some (.lst vs) ∧ atI vs k = some v ∧ Rp K F v d := by
  unfold itemM at h
  split at h
  · rename_i ms he
    split at h
    · rename_i d' hk
      cases h
      obtain ⟨a, vs, fpl, h1, h2, h3, h4, h5⟩ := S.lsAt he
      unfold atI at hk
      cases hj : ixN ms.length k with
      | none => rw [hj] at hk; cases hk
      | some j =>
        rw [hj] at hk
        obtain ⟨v, l, g1, g2, _⟩ := h4.get (j := j) hk
        refine ⟨a, vs, v, h1, h2, ?_, by cases g2; assumption⟩
        unfold atI
        rw [h4.length, hj]
        exact g1
    · cases h
  · cases h
theorem de_ixP (i : Nat) (hb : DE X W bv b fb) (hN : X.N[i]? = some x := by rfl) (hv : Vis X.env.scope x := by first | exact Or.inl rfl | exact Or.inr (Or.inl rfl) | exact Or.inr (Or.inr rfl)) (hd : (x == ("__debug__" : Str)) = false := by decide) (hcd : (x == ("__classdict__" : Str)) = false := by decide)
    (hs : PlainIx b := by exact fun _ _ => rfl) : DE X W bv (.Subscript (.Name x px) b pos) (pkIx i fb) :=
  pe_imp (pe_ix ix_seq (pe_var hN hv hd hcd) hb hs) fun σ H Q t => by
    obtain ⟨v, hv, e, F, fp, S, q⟩ := chk_tG t
    refine ⟨v, hv, tG.mono (AtG.bnd' (r := rD X.K) S q) fun y H2 ⟨d2, e2, F2, fp2, s2, S2, r2, q2⟩ => ?_⟩
    cases r2 with
    | int k =>
      dsimp only at q2
      obtain ⟨d, hd', q3⟩ : ∃ d, itemM i k e2 = some d ∧ AtG X.K W bv (smp (rD X.K)) (ret d) e2 σ F2 H2 fp2 Q := by
        unfold AtG at q2
        dsimp only at q2
        cases hh : itemM i k e2 with
        | none => rw [hh] at q2; exact q2.elim
        | some d => rw [hh] at q2; exact ⟨d, rfl, q2⟩
      obtain ⟨a, vs, w, h1, h2, h3, h4⟩ := item_at S2 hd'
      rw [hv] at h1
      cases h1
      exact .inl ⟨_, _, _, _, rfl, rfl, SqL.of h2, h3, AtG.here (r := rD X.K) S2 q3 h4⟩
    | _ => exact q2.elim
end
end FD

/-! FD: in on what is owned; append, item stores, dicts. -/
namespace FD
open PySem L2
section
variable {X : Cx} {W : WX} {bv : Nat → Option V} {pos p px apos : Pos} {a b c : Expr} {es : List Expr} {fa fb fc : EM D} {fs : EM (List D)} {x : Str}
/-! ### x in xs, an owned list -/
def inLD (d1 d2 : D) : Option D := match d2 with
  | .list ds => if inOk d1 ds then some (.bool (memD d1 ds)) else none
  | _ => none
def ninLD (d1 d2 : D) : Option D := match d2 with
  | .list ds => if inOk d1 ds then some (.bool (!memD d1 ds)) else none
  | _ => none
def rInL (K : PySem.W.Frag) (neg : Bool) : R2 := fun x y H Q => (∃ (p : Addr) (ys : List V), y = .ref p ∧ (SqL K H p ys ∨ SqT K H p ys) ∧ flatV x = true ∧ ys.all flatV = true ∧ Q (.bl (if neg then !inV x ys else inV x ys)) H) ∨
  ∃ (d : D) (ds : List D), Dp K H x d ∧ Dp K H y (.list ds) ∧ SeqAt.shaped d = true ∧ SeqAt.shaped (.list ds) = true ∧ Q (.bl (if neg then !(ds.any fun z => PyData.eqv z d) else ds.any fun z => PyData.eqv z d)) H
theorem or_in {k : Nat} (hr : Room k X.A) : OpR X (compareOp .In) (rInL X.K false) := by
  have hu : X.A.units + 65 < cLine := by have := hr.un; omega
  intro pins s σ H x y v u Q I rx ry h
  rcases h with ⟨p, ys, e1, e2, e3, e4, q⟩ | ⟨d, ds, e1, e2, e3, e4, q⟩
  · exact op_in_seq pins s σ H x y v u Q I rx ry ⟨p, ys, e1, e2, e3, e4, q⟩
  · exact op_inD hu pins s σ H x y v u Q I rx ry ⟨d, ds, e1, e2, e3, e4, q⟩
theorem or_nin {k : Nat} (hr : Room k X.A) : OpR X (compareOp .NotIn) (rInL X.K true) := by
  have hu : X.A.units + 65 < cLine := by have := hr.un; omega
  intro pins s σ H x y v u Q I rx ry h
  rcases h with ⟨p, ys, e1, e2, e3, e4, q⟩ | ⟨d, ds, e1, e2, e3, e4, q⟩
  · exact op_notIn_seq pins s σ H x y v u Q I rx ry ⟨p, ys, e1, e2, e3, e4, q⟩
  · exact op_notInD hu pins s σ H x y v u Q I rx ry ⟨d, ds, e1, e2, e3, e4, q⟩
theorem inL_p {K : PySem.W.Frag} {neg : Bool} {g : D → D → Option D} (hg : ∀ d1 d2 d, g d1 d2 = some d → ∃ ds, d2 = .list ds ∧ inOk d1 ds = true ∧ d = .bool (if neg then !memD d1 ds else memD d1 ds)) : OpP K (rInL K neg) g := by
  intro F H x y d1 d2 d Q s r1 r2 h
  obtain ⟨ds, rfl, hz, rfl⟩ := hg _ _ _ h
  refine ⟨rfl, fun q => ?_⟩
  have r2' := r2
  cases r2 with
  | lst h r =>
    rename_i p vs
    unfold inOk at hz
    by_cases z1 : (flatD d1 && flatAll ds) = true
    · rw [Bool.and_eq_true] at z1
      rw [r1.flat_eq z1.1]
      have e1 := r.flat_eq z1.2
      subst e1
      refine .inl ⟨p, _, rfl, .inl (s.l h), flat_flatV z1.1, all_flatV z1.2, ?_⟩
      rw [flat_inV z1.1 z1.2]
      exact q
    · rw [Bool.not_eq_true] at z1
      rw [z1, Bool.false_or, Bool.and_eq_true] at hz
      exact .inr ⟨d1, ds, r1.dp s (lay_of hz.1), r2'.dp s (lay_of hz.2), hz.1, hz.2, q⟩
theorem inL_P {K : PySem.W.Frag} : OpP K (rInL K false) inLD := inL_p fun d1 d2 d h => by
  unfold inLD at h
  split at h
  · split at h
    · rename_i hz; cases h; exact ⟨_, rfl, hz, rfl⟩
    · cases h
  · cases h
theorem ninL_P {K : PySem.W.Frag} : OpP K (rInL K true) ninLD := inL_p fun d1 d2 d h => by
  unfold ninLD at h
  split at h
  · split at h
    · rename_i hz; cases h; exact ⟨_, rfl, hz, rfl⟩
    · cases h
  · cases h
theorem de_inP (i : Nat) {k : Nat} (hr : Room k X.A) (ha : DE X W bv a fa) (hN : X.N[i]? = some x := by rfl) (hv : Vis X.env.scope x := by first | exact Or.inl rfl | exact Or.inr (Or.inl rfl) | exact Or.inr (Or.inr rfl)) (hd : (x == ("__debug__" : Str)) = false := by decide) (hcd : (x == ("__classdict__" : Str)) = false := by decide)
    (hm : behindInMarks .In (.Name x px) = false := by first | exact nomark _ | rfl) : DE X W bv (.Compare a [.In] [.Name x px] pos) (pkR i inLD fa) :=
  pe_imp (pe_cmpR (or_in hr) ha (pe_var hN hv hd hcd) hm) fun σ H Q t => pkR_of inL_P t
theorem de_ninP (i : Nat) {k : Nat} (hr : Room k X.A) (ha : DE X W bv a fa) (hN : X.N[i]? = some x := by rfl) (hv : Vis X.env.scope x := by first | exact Or.inl rfl | exact Or.inr (Or.inl rfl) | exact Or.inr (Or.inr rfl)) (hd : (x == ("__debug__" : Str)) = false := by decide) (hcd : (x == ("__classdict__" : Str)) = false := by decide)
    (hm : behindInMarks .NotIn (.Name x px) = false := by first | exact nomark _ | rfl) : DE X W bv (.Compare a [.NotIn] [.Name x px] pos) (pkR i ninLD fa) :=
  pe_imp (pe_cmpR (or_nin hr) ha (pe_var hN hv hd hcd) hm) fun σ H Q t => pkR_of ninL_P t
/-! ### xs.append(e) -/
def isLs (i : Nat) (e : Env) : Bool := match e[i]? with
  | some (some (.ls _)) => true
  | _ => false
def appM (i : Nat) (d : D) : EM Flow := fun e => match e[i]? with
  | some (some (.ls ms)) => if few (ms.length + 1) then .ok .nxt (e.set i (some (.ls (ms ++ [.im d])))) else .no
  | _ => .no
def appS (i : Nat) (f : EM D) : EM Flow := fun e => if isLs i e then bnd f (fun d => appM i d) e else .no
theorem isLs_at {e : Env} {i : Nat} (h : isLs i e = true) : ∃ ms, e[i]? = some (some (.ls ms)) := by
  unfold isLs at h
  split at h
  · rename_i ms he; exact ⟨ms, he⟩
  · cases h
theorem ds_append (i : Nat) (h : DE X W bv a fa) (hN : X.N[i]? = some x := by rfl) (hv : Vis X.env.scope x := by first | exact Or.inl rfl | exact Or.inr (Or.inl rfl) | exact Or.inr (Or.inr rfl)) (hd : (x == ("__debug__" : Str)) = false := by decide) (hcd : (x == ("__classdict__" : Str)) = false := by decide)
    (hbase : attributeBase (.Name x px) "append" X.env (eval (.Name x px) X.env) = eval (.Name x px) X.env := by rfl)
    (hfew : ((backTo p (starEach [a] X.env)).all (fun x => !x.1) && (backToKw p (keywordEach [] X.env)).all (fun x => x.1.isSome) && decide (([a] : List Expr).length + ([] : List Keyword).length + (if ([] : List Keyword).isEmpty then 0 else 1) < 30)) = true := by rfl)
    (hline : (apos.endLine == p.line) = true := by rfl) (hs : starEach [a] X.env = (false, eval a X.env) :: starEach [] X.env := by rfl) (hpl : (backTo p (starEach [] X.env)).any (·.1) = false := by rfl)
    (hsw : swapsWith (.Call (.Attribute (.Name x px) "append" apos) [a] [] p) none pos.line X.env = pure false := by rfl) :
    DS X W bv (.Expr (.Call (.Attribute (.Name x px) "append" apos) [a] [] p) pos) (appS i fa) :=
  ps_imp (ps_expr (pe_bm PySem.F.plainAttrs_list PySem.F.slot_list_append PySem.F.type_list_append mt_append (pe_var hN hv hd hcd) (pa_cons h pa_nil hs) hbase hfew hline hs hpl) hsw) fun D σ H ⟨e, F, fp, S, q⟩ => by
    unfold AtS appS at q
    by_cases hl : isLs i e = true
    · rw [if_pos hl] at q
      obtain ⟨ms, he⟩ := isLs_at hl
      obtain ⟨a0, vs, fpl, h1, h2, _⟩ := S.lsAt he
      refine ⟨_, h1, .inl ⟨rfl, _, SqL.of h2⟩, ?_⟩
      refine tG.mono (AtS.bnd' (r := rD X.K) S q) fun v H1 ⟨d, e1, F1, fp1, _, _, S1, r1, q1⟩ => ?_
      unfold AtS appM at q1
      split at q1
      rotate_left
      exact q1.elim
      rename_i ms1 he1
      obtain ⟨a1, vs1, fpl1, g1, g2, g3, g4, g5⟩ := S1.lsAt he1
      rw [h1] at g1
      cases g1
      split at q1
      rotate_left
      exact q1.elim
      rename_i hz
      have hlen := g4.length
      have hz' := few_le hz
      refine ⟨_, _, _, rfl, rfl, g2, by omega, ?_⟩
      obtain ⟨S2, s2⟩ := S1.upH (m := .ls (ms1 ++ [.im d])) (List.getElem?_eq_some_iff.mp he1).1 h1 g3 (.ls upd_same ((g4.snoc r1).other g5))
      exact q1 σ F1 _ fp1 s2 S2
    · rw [if_neg hl] at q
      exact q.elim
/-! ### xs[k] = v -/
def setIxM (i : Nat) (k : D) (d : D) : EM Flow := fun e => match k, e[i]? with
  | .int k, some (some (.ls ms)) => match ixN ms.length k with
    | some j => match ms[j]? with
      | some (.im _) => .ok .nxt (e.set i (some (.ls (ms.set j (.im d)))))
      | _ => .no
    | none => .no
  | _, _ => .no
def setIxS (i : Nat) (fk fv : EM D) : EM Flow := bnd fv fun d => chk i (bnd fk fun k => setIxM i k d)
theorem ds_setIx (i : Nat) {tp : Pos} (hk : DE X W bv b fb) (hvl : DE X W bv a fa) (hN : X.N[i]? = some x := by rfl) (hv : Vis X.env.scope x := by first | exact Or.inl rfl | exact Or.inr (Or.inl rfl) | exact Or.inr (Or.inr rfl)) (hd : (x == ("__debug__" : Str)) = false := by decide) (hcd : (x == ("__classdict__" : Str)) = false := by decide)
    (ha : ∀ v, assign (.Subscript (.Name x px) b tp) X.env v = (do
      let ov ← holding [v] (eval (.Name x px) X.env)
      let iv ← holding [v, ov] (eval b X.env)
      standAt tp
      holding [v, ov, iv] (setItem ov iv v)
      release [v, ov, iv] []) := by intro _; rfl)
    (hs : swapsWithSole [.Subscript (.Name x px) b tp] a pos.line X.env = pure false := by rfl) (hw : swappedStores [.Subscript (.Name x px) b tp] a X.env = pure none := by rfl)
    (h1 : (assignEach [.Subscript (.Name x px) b tp] X.env).map (·.2) = [assign (.Subscript (.Name x px) b tp) X.env] := by rfl) :
    DS X W bv (.Assign [.Subscript (.Name x px) b tp] a pos) (setIxS i fb fa) :=
  ps_imp (ps_asg hvl (pg_sub (pe_var hN hv hd hcd) hk set_list ha) hs hw h1) fun D σ H ⟨e, F, fp, S, q⟩ => by
    refine tG.mono (AtS.bnd' (r := rD X.K) S q) fun v H1 ⟨d, e1, F1, fp1, _, _, S1, r1, q1⟩ => ?_
    obtain ⟨w, hw, _⟩ := chk_S (⟨e1, F1, fp1, S1, q1⟩ : tS X.K W bv _ D σ H1)
    refine ⟨w, hw, ?_⟩
    have q2 : AtS X.K W bv (bnd fb fun k => setIxM i k d) e1 σ F1 H1 fp1 D := by
      unfold AtS chk at q1
      cases hh : has i e1 with
      | true => rw [hh] at q1; exact q1
      | false => rw [hh] at q1; exact q1.elim
    refine tG.mono (AtS.bnd' (r := rD X.K) S1 q2) fun y H2 ⟨kd, e2, F2, fp2, s2, _, S2, r2, q3⟩ => ?_
    unfold AtS setIxM at q3
    split at q3
    rotate_left
    exact q3.elim
    rename_i k ms he
    cases r2
    split at q3
    rotate_left
    exact q3.elim
    rename_i j hj
    split at q3
    rotate_left
    exact q3.elim
    rename_i d0 hd0
    obtain ⟨a1, vs1, fpl1, g1, g2, g3, g4, g5⟩ := S2.lsAt he
    rw [hw] at g1
    cases g1
    refine ⟨a1, vs1, k, j, rfl, rfl, g2, by rw [g4.length]; exact hj, ?_⟩
    obtain ⟨S3, s3⟩ := S2.upH (m := .ls (ms.set j (.im d))) (List.getElem?_eq_some_iff.mp he).1 hw g3 (.ls upd_same ((g4.set (Rp.mono s2 r1) hd0).other g5))
    exact q3 σ F2 _ fp2 s3 S3
end
end FD

/-! FD: dicts. -/
namespace FD
open PySem L2
def kOf : D → Option Key
  | .int i => some (.inl i)
  | .str x => some (.inr x)
  | _ => none
def kAll : List D → Option (List Key)
  | [] => some []
  | d :: ds => (kOf d).bind fun k => (kAll ds).map (k :: ·)
def ksOf : D → Option (List Key)
  | .tuple ds => kAll ds
  | _ => none
theorem kOf_keyD (k : Key) : kOf (keyD k) = some k := by cases k <;> rfl
theorem kAll_keyD : ∀ ks : List Key, kAll (ks.map keyD) = some ks
  | [] => rfl
  | k :: ks => by
    show (kOf (keyD k)).bind (fun k => (kAll (ks.map keyD)).map (k :: ·)) = _
    rw [kOf_keyD, kAll_keyD ks]
    rfl
def dictK : List (D × D) → Option (List (Key × D))
  | [] => some []
  | p :: r => (kOf p.1).bind fun k => (dictK r).map ((k, p.2) :: ·)
def dictT : List (D × D) → Option (List (List Key × D))
  | [] => some []
  | p :: r => (ksOf p.1).bind fun k => (dictT r).map ((k, p.2) :: ·)
theorem dictK_of : ∀ kds : List (Key × D), dictK (kds.map fun p => (keyD p.1, p.2)) = some kds
  | [] => rfl
  | p :: r => by
    show (kOf (keyD p.1)).bind (fun k => (dictK (r.map fun p => (keyD p.1, p.2))).map ((k, p.2) :: ·)) = _
    rw [kOf_keyD, dictK_of r]
    rfl
theorem dictT_of : ∀ kds : List (List Key × D), dictT (kds.map fun p => (PyData.tuple (p.1.map keyD), p.2)) = some kds
  | [] => rfl
  | p :: r => by
    show (kAll (p.1.map keyD)).bind (fun k => (dictT (r.map fun p => (PyData.tuple (p.1.map keyD), p.2))).map ((k, p.2) :: ·)) = _
    rw [kAll_keyD, dictT_of r]
    rfl
theorem dictT_K : ∀ {kds : List (Key × D)} {l : List (List Key × D)}, dictT (kds.map fun p => (keyD p.1, p.2)) = some l → kds = [] ∧ l = []
  | [], _, h => by cases h; exact ⟨rfl, rfl⟩
  | p :: r, _, h => by
    obtain ⟨k, hk, _⟩ := Option.bind_eq_some_iff.mp h
    obtain ⟨q, _⟩ := p
    cases q <;> cases hk
theorem dictK_T : ∀ {kds : List (List Key × D)} {l : List (Key × D)}, dictK (kds.map fun p => (PyData.tuple (p.1.map keyD), p.2)) = some l → kds = [] ∧ l = []
  | [], _, h => by cases h; exact ⟨rfl, rfl⟩
  | p :: r, _, h => by
    obtain ⟨k, hk, _⟩ := Option.bind_eq_some_iff.mp h
    cases hk
section
variable {κ α β : Type} [DecidableEq κ]
def lookK (kvs : List (κ × α)) (k : κ) : Option α := (kvs.find? fun kv => decide (kv.1 = k)).map (·.2)
def putKK (kvs : List (κ × α)) (k : κ) (v : α) : List (κ × α) := if (kvs.any fun kv => decide (kv.1 = k)) = true then kvs.map (fun kv => if kv.1 = k then (kv.1, v) else kv) else kvs ++ [(k, v)]
theorem lookK_nil {k : κ} : lookK ([] : List (κ × α)) k = none := rfl
theorem lookK_pos {p : κ × α} {r : List (κ × α)} {k : κ} (e : p.1 = k) : lookK (p :: r) k = some p.2 := by simp [lookK, List.find?_cons, e]
theorem lookK_neg {p : κ × α} {r : List (κ × α)} {k : κ} (e : ¬ p.1 = k) : lookK (p :: r) k = lookK r k := by simp [lookK, List.find?_cons, e]
theorem keys_any {k : κ} : ∀ {as : List (κ × α)} {bs : List (κ × β)}, as.map (·.1) = bs.map (·.1) → (as.any fun kv => decide (kv.1 = k)) = (bs.any fun kv => decide (kv.1 = k))
  | [], [], _ => rfl
  | [], _ :: _, h => by cases h
  | _ :: _, [], h => by cases h
  | a :: as, b :: bs, h => by
    simp only [List.map_cons, List.cons.injEq] at h
    rw [List.any_cons, List.any_cons, h.1, keys_any h.2]
end
section
variable {κ : Type} [DecidableEq κ] {K : PySem.W.Frag} {F H : Hp} {k : κ}
theorem look_rp : ∀ {kvs : List (κ × V)} {kds : List (κ × D)}, kvs.map (·.1) = kds.map (·.1) → RpL K F (kvs.map (·.2)) (kds.map (·.2)) → (lookK kds k = none ∧ valV kvs k = none) ∨ ∃ v d, valV kvs k = some v ∧ lookK kds k = some d ∧ Rp K F v d
  | [], [], _, _ => .inl ⟨rfl, rfl⟩
  | [], _ :: _, h, _ => by cases h
  | _ :: _, [], h, _ => by cases h
  | a :: as, b :: bs, h, r => by
    simp only [List.map_cons, List.cons.injEq] at h
    cases r with
    | cons r1 r2 =>
      by_cases e : a.1 = k
      · exact .inr ⟨_, _, valV_pos e, lookK_pos (h.1 ▸ e), r1⟩
      · rw [valV_neg e, lookK_neg (h.1 ▸ e)]
        exact look_rp h.2 r2
theorem look_own : ∀ {kvs : List (κ × V)} {kms : List (κ × M)} {fpl : List Addr}, kvs.map (·.1) = kms.map (·.1) → OwnL K F H (kvs.map (·.2)) (kms.map (·.2)) fpl → (lookK kms k = none ∧ valV kvs k = none) ∨ ∃ v m l, valV kvs k = some v ∧ lookK kms k = some m ∧ Own K F H v m l ∧ ∀ b ∈ l, b ∈ fpl
  | [], [], _, _, _ => .inl ⟨rfl, rfl⟩
  | [], _ :: _, _, h, _ => by cases h
  | _ :: _, [], _, h, _ => by cases h
  | a :: as, b :: bs, _, h, r => by
    simp only [List.map_cons, List.cons.injEq] at h
    cases r with
    | cons r1 r2 =>
      by_cases e : a.1 = k
      · exact .inr ⟨_, _, _, valV_pos e, lookK_pos (h.1 ▸ e), r1, fun b hb => List.mem_append_left _ hb⟩
      · rw [valV_neg e, lookK_neg (h.1 ▸ e)]
        rcases look_own h.2 r2 with q | ⟨v, m, l, q1, q2, q3, q4⟩
        · exact .inl q
        · exact .inr ⟨v, m, l, q1, q2, q3, fun b hb => List.mem_append_right _ (q4 b hb)⟩
/-- what stands at k, if something does, is data -/
def imK (kms : List (κ × M)) (k : κ) : Bool := kms.all fun kv => !decide (kv.1 = k) || isIm kv.2
theorem put_own {v : V} {d : D} (r : Rp K F v d) : ∀ {kvs : List (κ × V)} {kms : List (κ × M)} {fpl : List Addr}, kvs.map (·.1) = kms.map (·.1) → OwnL K F H (kvs.map (·.2)) (kms.map (·.2)) fpl → imK kms k = true →
    (putK kvs k v).map (·.1) = (putKK kms k (.im d)).map (·.1) ∧ OwnL K F H ((putK kvs k v).map (·.2)) ((putKK kms k (.im d)).map (·.2)) fpl := by
  intro kvs kms fpl hk ho hi
  unfold putK putKK
  rw [keys_any hk]
  by_cases c : (kms.any fun kv => decide (kv.1 = k)) = true
  · rw [if_pos c, if_pos c]
    clear c
    constructor
    · have e1 : ∀ l : List (κ × V), (l.map fun kv => if kv.1 = k then (kv.1, v) else kv).map (·.1) = l.map (·.1) := fun l => by
        rw [List.map_map]
        exact List.map_congr_left fun a _ => by show (if a.1 = k then (a.1, v) else a).1 = a.1; split <;> rfl
      have e2 : ∀ l : List (κ × M), (l.map fun kv => if kv.1 = k then (kv.1, M.im d) else kv).map (·.1) = l.map (·.1) := fun l => by
        rw [List.map_map]
        exact List.map_congr_left fun a _ => by show (if a.1 = k then (a.1, M.im d) else a).1 = a.1; split <;> rfl
      rw [e1, e2, hk]
    · induction kvs generalizing kms fpl with
      | nil =>
        cases kms with
        | nil => exact ho
        | cons _ _ => cases hk
      | cons a as ih =>
        cases kms with
        | nil => cases hk
        | cons b bs =>
          obtain ⟨ak, av⟩ := a
          obtain ⟨bk, bm⟩ := b
          simp only [List.map_cons, List.cons.injEq] at hk
          simp only [imK, List.all_cons, Bool.and_eq_true] at hi
          cases ho with
          | cons o1 o2 =>
            have ih' := ih hk.2 o2 hi.2
            simp only [List.map_cons]
            by_cases e : ak = k
            · have e' : bk = k := hk.1 ▸ e
              rw [if_pos e, if_pos e']
              have : isIm bm = true := by simpa [e'] using hi.1
              cases bm with
              | im d0 =>
                cases o1
                exact OwnL.cons (fp := []) (.im r) ih'
              | _ => cases this
            · have e' : ¬ bk = k := hk.1 ▸ e
              rw [if_neg e, if_neg e']
              exact OwnL.cons o1 ih'
  · rw [if_neg c, if_neg c]
    simp only [List.map_append, List.map_cons, List.map_nil]
    exact ⟨by rw [hk], ho.snoc r⟩
end

/-! ### keys in the heap -/
theorem Rp.key {K : PySem.W.Frag} {F : Hp} {v : V} {d : D} {k : Key} (r : Rp K F v d) (h : kOf d = some k) : v = kV k := by
  cases r <;> cases h <;> rfl
theorem RpL.keys {K : PySem.W.Frag} {F : Hp} : ∀ {vs : List V} {ds : List D} {ks : List Key}, RpL K F vs ds → kAll ds = some ks → vs = ks.map kV
  | _, _, _, .nil, h => by cases h; rfl
  | _, _, _, .cons r1 r, h => by
    obtain ⟨k, hk, h2⟩ := Option.bind_eq_some_iff.mp h
    obtain ⟨ks, h3, rfl⟩ := Option.map_eq_some_iff.mp h2
    rw [List.map_cons, r1.key hk, r.keys h3]
theorem Rp.keyT {K : PySem.W.Frag} {F : Hp} {v : V} {d : D} {ks : List Key} (r : Rp K F v d) (h : ksOf d = some ks) : ∃ b, v = .ref b ∧ F b = some (.tup (ks.map kV)) := by
  cases r with
  | tup hb rl => exact ⟨_, rfl, by rw [← rl.keys h]; exact hb⟩
  | _ => cases h
/-- what a dict holds at y, told of the empty one too -/
def DGetX (H : Hp) (a : Addr) (y : V) (r : Option V) : Prop := DGet H a y r ∨ (r = none ∧ Rd H a (.dK []) ∧ ∃ (b : Addr) (k : List Key), y = .ref b ∧ H b = some (.tup (k.map kV))) ∨ (r = none ∧ Rd H a (.dT []) ∧ ∃ k, y = kV k)
/-- d's item at y -/
def getDD (kvs : List (D × D)) (y : D) : Option (Option D) := match kOf y with
  | some k => (dictK kvs).map fun l => lookK l k
  | none => match ksOf y with
    | some k => (dictT kvs).map fun l => lookK l k
    | none => none
theorem get_rp {K : PySem.W.Frag} {F H : Hp} (s : Sub F H) {v y : V} {kvs : List (D × D)} {yd : D} {o : Option D} (r : Rp K F v (.dict kvs)) (ry : Rp K F y yd) (h : getDD kvs yd = some o) : ∃ a ov, v = .ref a ∧ DGetX H a y ov ∧ ((o = none ∧ ov = none) ∨ ∃ d w, o = some d ∧ ov = some w ∧ Rp K F w d) := by
  unfold getDD at h
  generalize hd : PyData.dict kvs = dd at r
  cases r with
  | dK hr hk rl =>
    rename_i a kv kds
    cases hd
    split at h
    · rename_i k hky
      rw [dictK_of] at h
      cases h
      have ey := ry.key hky
      subst ey
      refine ⟨a, _, rfl, Or.inl (Or.inl ⟨kv, k, s.rd _ _ hr, rfl, rfl⟩), ?_⟩
      rcases look_rp (k := k) hk rl with ⟨e1, e2⟩ | ⟨w, d, e1, e2, e3⟩
      · exact .inl ⟨e1, e2⟩
      · exact .inr ⟨d, w, e2, e1, e3⟩
    · split at h
      · rename_i k hky
        obtain ⟨l, hl, rfl⟩ := Option.map_eq_some_iff.mp h
        obtain ⟨e1, e2⟩ := dictT_K hl
        subst e1 e2
        have e3 : kv = [] := by simpa using hk
        subst e3
        obtain ⟨b, rfl, hb⟩ := ry.keyT hky
        exact ⟨a, none, rfl, Or.inr (Or.inl ⟨rfl, s.rd _ _ hr, b, k, rfl, s.tp _ _ hb⟩), .inl ⟨rfl, rfl⟩⟩
      · cases h
  | dT hr hk rl =>
    rename_i a kv kds
    cases hd
    split at h
    · rename_i k hky
      obtain ⟨l, hl, rfl⟩ := Option.map_eq_some_iff.mp h
      obtain ⟨e1, e2⟩ := dictK_T hl
      subst e1 e2
      have e3 : kv = [] := by simpa using hk
      subst e3
      have ey := ry.key hky
      subst ey
      exact ⟨a, none, rfl, Or.inr (Or.inr ⟨rfl, s.rd _ _ hr, k, rfl⟩), .inl ⟨rfl, rfl⟩⟩
    · split at h
      · rename_i k hky
        rw [dictT_of] at h
        cases h
        obtain ⟨b, rfl, hb⟩ := ry.keyT hky
        refine ⟨a, _, rfl, Or.inl (Or.inr ⟨kv, k, b, s.rd _ _ hr, rfl, s.tp _ _ hb, rfl⟩), ?_⟩
        rcases look_rp (k := k) hk rl with ⟨e1, e2⟩ | ⟨w, d, e1, e2, e3⟩
        · exact .inl ⟨e1, e2⟩
        · exact .inr ⟨d, w, e2, e1, e3⟩
      · cases h
  | _ => cases hd
section
variable {X : Cx} {pins : List (Addr × Obj)} {σ : L2.St} {H : Hp} {s : Shared} {a : Addr} {y : V} {u : Value} {o : Option V} {A : Around} {E : Value → Shared → Prop}
theorem emptyH (I : Inv X pins σ H s) (e : Rd H a (.dK [])) : (a == sysModules) = false ∧ s.heap.DictOfH (tupleKind (mixKind X.prog X.w)) a [] := by
  obtain ⟨z, hd, vs, rel, dd⟩ := dk_rd I.hok e
  cases rel
  obtain ⟨ob, es, ep, h1, h2, h3, h4, h5, h6⟩ := dd
  refine ⟨hd, ob, es, ep, h1, h2, h3, ?_, (fun x hx => by cases hx), List.nodup_nil⟩
  cases h7 : es.toList with
  | nil => rfl
  | cons q qs => rw [h7] at h5; cases h5
theorem emptyK (I : Inv X pins σ H s) (e : Rd H a (.dT [])) : (a == sysModules) = false ∧ s.heap.DictOf (mixKind X.prog X.w) a [] := by
  obtain ⟨z, hd, xs, rel, dd⟩ := dt_rd I.hok e
  cases rel
  obtain ⟨ob, es, ep, h1, h2, h3, h4, h5, h6⟩ := dd
  have h7 : es = #[] := by
    have : es.toList = [] := h4
    simpa using this
  subst h7
  refine ⟨hd, ob, #[], ep, h1, h2, h3, (fun q hq => by simp at hq), .nil, List.nodup_nil⟩
theorem dx_in {neg : Bool} {Q : Value → Shared → Prop} (hu : A.units + 1 < cLine) (I : Inv X pins σ H s) (g : DGetX H a y o) (ry : RelV y u) (h : ∀ s', Inv X pins σ H s' → Q (.bool (if neg then !o.isSome else o.isSome)) s') :
    wpAny (model X.prog X.w) A (compareOp (if neg then .NotIn else .In) u (.ref a)) Q E s := by
  rcases g with g | ⟨rfl, e, b, k, rfl, eb⟩ | ⟨rfl, e, k, rfl⟩
  · cases neg
    · exact d_in hu I g ry h
    · exact d_notIn hu I g ry h
  · cases (show u = Value.ref b from ry)
    obtain ⟨hd, dd⟩ := emptyH I e
    cases neg
    · exact wpAny_in_heap (tupleKind_room_in1 hu) (key_of I.hok eb) hd dd (h _ (I.tok _))
    · exact PyProof.Rows.wpAny_notIn_heap (tupleKind_room_in1 hu) (key_of I.hok eb) hd dd (h _ (I.tok _))
  · obtain ⟨hd, dd⟩ := emptyK I e
    cases neg
    · exact wpAny_in_of (kV_is ry) hd dd.mapOf (h _ (I.tok _))
    · exact wpAny_notIn_of (kV_is ry) hd dd.mapOf (h _ (I.tok _))
end
section
variable {X : Cx} {W : WX} {bv : Nat → Option V} {pos p px apos cpos : Pos} {a b c : Expr} {es : List Expr} {fa fb fc : EM D} {fs : EM (List D)} {x : Str}
def rDIn (neg : Bool) : R2 := fun x y H Q => ∃ a o, y = .ref a ∧ DGetX H a x o ∧ Q (.bl (if neg then !o.isSome else o.isSome)) H
theorem or_din {k : Nat} (hr : Room k X.A) (neg : Bool) : OpR X (compareOp (if neg then .NotIn else .In)) (rDIn neg) := by
  intro pins s σ H x y v u Q I rx ry h
  obtain ⟨a, o, rfl, g, q⟩ := h
  cases (show u = Value.ref a from ry)
  exact dx_in (by have := hr.un; omega) I g rx fun s' I' => ⟨.bl _, H, I', rfl, q⟩
def inDD (neg : Bool) (d1 d2 : D) : Option D := match d2 with
  | .dict kvs => (getDD kvs d1).map fun o => .bool (if neg then !o.isSome else o.isSome)
  | _ => none
theorem in_dP {K : PySem.W.Frag} {neg : Bool} : OpP K (rDIn neg) (inDD neg) := by
  intro F H x y d1 d2 d Q s r1 r2 h
  unfold inDD at h
  split at h
  · obtain ⟨o, ho, rfl⟩ := Option.map_eq_some_iff.mp h
    refine ⟨rfl, fun q => ?_⟩
    obtain ⟨a, ov, rfl, g, hh⟩ := get_rp s r2 r1 ho
    refine ⟨a, ov, rfl, g, ?_⟩
    have : ov.isSome = o.isSome := by
      rcases hh with ⟨rfl, rfl⟩ | ⟨_, _, rfl, rfl, _⟩ <;> rfl
    rw [this]
    exact q
  · cases h
/-- an operation whose answer has no address serves data as it stands -/
theorem OpP.v {K : PySem.W.Frag} {r : R2} {g : D → D → Option D} (h : OpP K r g) : OpV K r g := by
  intro W bv e σ F H fp x y d1 d2 Q S r1 r2 q
  obtain ⟨d, hd, q'⟩ := q.lif
  obtain ⟨fl, k⟩ := h F H x y d1 d2 d Q S.sub r1 r2 hd
  exact k (AtG.here (r := rD K) S q' (Rp.flat fl))
/-- in, of lists, tuples, texts, dicts -/
def inA (d1 d2 : D) : Option D := match d2 with
  | .dict _ => inDD false d1 d2
  | _ => inD d1 d2
def ninA (d1 d2 : D) : Option D := match d2 with
  | .dict _ => inDD true d1 d2
  | _ => ninD d1 d2
theorem opv_cases {K : PySem.W.Frag} {r r' : R2} {g g' h : D → D → Option D} (h1 : OpV K r g) (h2 : OpV K r' g') (hh : ∀ x y, h x y = g x y ∨ h x y = g' x y) : OpV K (fun x y H Q => r x y H Q ∨ r' x y H Q) h := by
  intro W bv e σ F H fp x y d1 d2 Q S r1 r2 q
  rcases hh d1 d2 with e1 | e1
  · rw [e1] at q
    exact .inl (h1 W bv e σ F H fp x y d1 d2 Q S r1 r2 q)
  · rw [e1] at q
    exact .inr (h2 W bv e σ F H fp x y d1 d2 Q S r1 r2 q)
theorem od_inA {k : Nat} (hr : Room k X.A) : OpD X (compareOp .In) inA := by
  obtain ⟨r, h1, h2⟩ := od_in hr
  exact ⟨_, OpR.or h1 (or_din hr false), opv_cases h2 in_dP.v fun x y => by unfold inA; split <;> first | exact .inr rfl | exact .inl rfl⟩
theorem od_ninA {k : Nat} (hr : Room k X.A) : OpD X (compareOp .NotIn) ninA := by
  obtain ⟨r, h1, h2⟩ := od_nin hr
  exact ⟨_, OpR.or h1 (or_din hr true), opv_cases h2 in_dP.v fun x y => by unfold ninA; split <;> first | exact .inr rfl | exact .inl rfl⟩
end
end FD

/-! FD: two dicts, the keys tuples, compared. -/
namespace FD
open PySem L2
section
variable {prog : Program} {w : World} {κ : Type} [DecidableEq κ] {knd : HeapKind prog w κ} {A : Around} {E : Value → Shared → Prop} {s : Shared}
/-- what is told of two such dicts -/
def sameH (xa xb : List (κ × Addr × Value)) (ev : κ → Bool) : Bool := xa.all fun x => (atKey xb x.1).isSome && ev x.1
theorem at_some {xs : List (κ × Addr × Value)} {k : κ} {j : Nat} {p : Addr × Value} (hn : (xs.map (·.1)).Nodup) (h : xs[j]? = some (k, p)) : atKey xs k = some p := by
  induction xs generalizing j with
  | nil => simp at h
  | cons x xs ih =>
    rw [List.map_cons, List.nodup_cons] at hn
    cases j with
    | zero =>
      have e : x = (k, p) := by simpa using h
      subst e
      simp [atKey]
    | succ j =>
      have h' : xs[j]? = some (k, p) := by simpa using h
      have ne : ¬ x.1 = k := fun z => hn.1 (by
        rw [z]
        exact List.mem_map.mpr ⟨(k, p), List.mem_of_getElem? h', rfl⟩)
      have := ih hn.2 h'
      simpa [atKey, List.find?_cons, ne] using this
theorem at_none {xs : List (κ × Addr × Value)} {k : κ} (h : ∀ (j : Nat) (p : Addr × Value), xs[j]? ≠ some (k, p)) : atKey xs k = none := by
  cases q : atKey xs k with
  | none => rfl
  | some p =>
    unfold atKey at q
    obtain ⟨x, hx, rfl⟩ := Option.map_eq_some_iff.mp q
    obtain ⟨j, hj⟩ := List.mem_iff_getElem?.mp (List.mem_of_find?_eq_some hx)
    have hk : x.1 = k := by simpa using List.find?_some hx
    exact absurd (by rw [hj, ← hk] : xs[j]? = some (k, x.2)) (h j x.2)
theorem pairsH {nm : String} {a b : Addr} {xa xb : List (κ × Addr × Value)} {ev : κ → Bool} {Q : Bool → Shared → Prop} (hu : knd.room A) (ha : (a == sysModules) = false) (hb : (b == sysModules) = false)
    (da : s.heap.DictOfH knd a xa) (db : s.heap.DictOfH knd b xb) (hits : ∀ k p q, (k, p) ∈ xa → atKey xb k = some q → SeqAt.EqAt A s p.2 q.2 (ev k)) (h : Q (xa.length == xb.length && sameH xa xb ev) s) :
    wpAny (model prog w) A (Builtin.Dict.samePairs nm a b) Q E s := by
  obtain ⟨oa, ea, epa, ga, _, fa, la, ia, na⟩ := da
  obtain ⟨ob, eb, epb, gb, _, fb, lb, ib, nb⟩ := db
  have za : xa.length = ea.size := (size_of_entries la).symm
  have zb : xb.length = eb.size := (size_of_entries lb).symm
  unfold Builtin.Dict.samePairs Builtin.Dict.showsAll
  rw [if_neg (by rw [ha]; decide), if_neg (by rw [hb]; decide)]
  refine wpAny_bind (wpAny_pure (wpAny_bind (wpAny_pure (wpAny_bind (wpAny_dictEntries ga fa ?_)))))
  dsimp only
  refine wpAny_bind (wpAny_dictEntries gb fb ?_)
  by_cases hz : ea.size = eb.size
  · have e0 : (xa.length == xb.length) = true := by rw [za, zb, hz]; exact beq_self_eq_true _
    rw [e0, Bool.true_and] at h
    rw [if_neg (by simp [hz])]
    refine wpAny_bind (wpAny_dictEpoch ga fa (wpAny_bind ?_))
    rw [Std.Legacy.Range.forIn_eq_forIn_range']
    simp only [Std.Legacy.Range.size, Nat.sub_zero, Nat.add_sub_cancel, Nat.div_one]
    refine wpAny_forIn_list _ (fun rest q t => t = s ∧ q = (none, ()) ∧ ∃ i, rest = List.range' i (ea.size - i) ∧ i ≤ ea.size ∧ sameH xa xb ev = sameH (xa.drop i) xb ev) _ ?_ ?_ _ _ ⟨rfl, rfl, 0, by simp, Nat.zero_le _, rfl⟩
    · rintro y rest q t ⟨rfl, rfl, i, hr, hi, hpre⟩
      have lt : i < ea.size := Nat.lt_of_not_le fun z => by
        rw [Nat.sub_eq_zero_of_le z] at hr
        cases hr
      have er : ea.size - i = (ea.size - (i + 1)) + 1 := by omega
      rw [er, List.range'_succ] at hr
      injection hr with hy hrest
      subst hy
      have lx : y < xa.length := by rw [za]; exact lt
      refine wpAny_bind (wpAny_dictEntries ga fa ?_)
      rw [Array.getElem?_eq_getElem lt]
      obtain ⟨k, p, v, hx⟩ : ∃ k p v, xa[y] = (k, p, v) := ⟨_, _, _, rfl⟩
      have hin : (k, p, v) ∈ xa := hx ▸ List.getElem_mem lx
      have ent : ea[y] = ⟨knd.hash k, .ref p, v⟩ := by
        have z := entry_at la y
        rw [Array.getElem?_eq_getElem lt, List.getElem?_eq_getElem lx, hx] at z
        exact Option.some.inj z
      have hcons : xa.drop y = (k, p, v) :: xa.drop (y + 1) := by rw [← hx]; exact List.drop_eq_getElem_cons lx
      rw [hcons] at hpre
      simp only [sameH, List.all_cons] at hpre
      show wpAny _ _ (holding [ea[y].key, ea[y].val] _ >>= _) _ _ _
      rw [ent]
      refine wpAny_bind (wpAny_holding (wpAny_bind (wpAny_dictFind_heap hu (ia _ hin) gb fb lb ib nb (fun nn => ?_) fun j q2 ss => ?_)))
      · rw [at_none nn] at hpre
        have hf : Q false t := by
          have : sameH xa xb ev = false := by simpa [sameH] using hpre
          rw [this] at h
          exact h
        refine wpAny_pure ?_
        show wpAny _ _ (if (!false) = true then _ else _) _ _ _
        rw [if_pos (by decide)]
        exact wpAny_pure (wpAny_pure hf)
      · have hq := at_some nb ss
        rw [hq] at hpre
        have lj : j < eb.size := by
          rw [← zb]
          exact (List.getElem?_eq_some_iff.mp ss).1
        have ent2 : eb[j] = ⟨knd.hash k, .ref q2.1, q2.2⟩ := by
          have z := entry_at lb j
          rw [Array.getElem?_eq_getElem lj, ss] at z
          exact Option.some.inj z
        refine wpAny_bind (wpAny_dictEntries gb fb ?_)
        rw [Array.getElem?_eq_getElem lj]
        have hit := hits k (p, v) q2 hin hq
        rw [show q2.2 = eb[j].val by rw [ent2]] at hit
        refine wpAny_holding (hit prog w _ _ ?_)
        cases he : ev k with
        | false =>
          rw [he] at hpre
          have : sameH xa xb ev = false := by simpa [sameH] using hpre
          rw [this] at h
          show wpAny _ _ (if (!false) = true then _ else _) _ _ _
          rw [if_pos (by decide)]
          exact wpAny_pure (wpAny_pure h)
        | true =>
          rw [he] at hpre
          show wpAny _ _ (if (!true) = true then _ else _) _ _ _
          rw [if_neg (by decide)]
          refine wpAny_bind (wpAny_dictEpoch ga fa ?_)
          rw [if_neg (by simp)]
          exact wpAny_pure ⟨rfl, rfl, y + 1, hrest, lt, by simpa [sameH] using hpre⟩
    · rintro q t ⟨rfl, rfl, i, hr, hi, hpre⟩
      have ei : i = ea.size := by
        rcases Nat.lt_or_ge i ea.size with z | z
        · rw [show ea.size - i = (ea.size - (i + 1)) + 1 by omega, List.range'_succ] at hr
          cases hr
        · exact Nat.le_antisymm hi z
      rw [ei, ← za, List.drop_length] at hpre
      have ht : sameH xa xb ev = true := hpre
      rw [ht] at h
      exact wpAny_pure h
  · have e0 : (xa.length == xb.length) = false := by rw [za, zb]; simpa using hz
    rw [e0, Bool.false_and] at h
    rw [if_pos (by simpa using hz)]
    exact wpAny_bind (wpAny_rule (wpAny_pure h))
theorem eqH {a b : Addr} {xa xb : List (κ × Addr × Value)} {ev : κ → Bool} {Q : Value → Shared → Prop} (hu : knd.room A.in1) (hc : A.units < cLine) (ha : (a == sysModules) = false) (hb : (b == sysModules) = false)
    (da : s.heap.DictOfH knd a xa) (db : s.heap.DictOfH knd b xb) (hits : ∀ k p q, (k, p) ∈ xa → atKey xb k = some q → SeqAt.EqAt A.in1 s p.2 q.2 (ev k)) (h : Q (.bool (xa.length == xb.length && sameH xa xb ev)) s) :
    wpAny (model prog w) A (compareOp .Eq (.ref a) (.ref b)) Q E s := by
  refine wpAny_richCompare_same_room (op := .Eq) da.typeIs db.typeIs PySem.F.slot_dict_eq (wpAny_call_entry PySem.F.slot_dict_eq da.typeIs PySem.F.entry_dict_eq ?_ (PySem.F.args_dict_eq_2 _ _)) hc
  show wpAny _ _ (Builtin.Dict.dictSlotArgs "__eq__" ⟨[.ref a, .ref b], []⟩ >>= _) _ _ s
  unfold Builtin.Dict.dictSlotArgs
  refine wpAny_bind (wpAny_bind (wpAny_notOrdered_dict da.typeIs (wpAny_pure ?_)))
  refine wpAny_bind (wpAny_isInstance (T := "dict") db.typeIs PySem.F.sub_dict_dict ?_)
  simp only [Bool.not_true, Bool.false_eq_true, if_false]
  refine wpAny_bind (wpAny_pure (wpAny_bind (wpAny_pure (wpAny_bind (pairsH hu ha hb da db hits (wpAny_pure ⟨_, rfl, ?_, ?_⟩))))))
  · exact fun x => nomatch x
  · simpa using h
end
end FD

/-! FD: dicts as data and as what is owned: ==, [], get, stores. -/
namespace FD
open PySem L2
section
variable {X : Cx} {W : WX} {bv : Nat → Option V} {pos p px apos cpos : Pos} {a b c : Expr} {es : List Expr} {fa fb fc : EM D} {fs : EM (List D)} {x : Str}
/-! ### d == e -/
/-- data without an address that can be laid -/
def okV (d : D) : Bool := flatD d && d.canLay0
/-- equal dicts, the keys tuples, the values without an address -/
def eqT (ka kb : List (List Key × D)) : Bool := (ka.length == kb.length) && ka.all fun q => match lookK kb q.1 with
  | some y => PyData.eqv q.2 y
  | none => false
def eqDT (d1 d2 : D) : Option D := match d1, d2 with
  | .dict k1, .dict k2 => (dictT k1).bind fun l1 => (dictT k2).bind fun l2 => if (l1.all fun q => okV q.2) && (l2.all fun q => okV q.2) then some (.bool (eqT l1 l2)) else none
  | _, _ => none
theorem flat_reads {K : PySem.W.Frag} {F : Hp} {h : Heap} {v : V} {u : Value} {d : D} (r : Rp K F v d) (f : flatD d = true) (ru : RelV v u) : Reads h u d [] := by
  cases r with
  | non => cases (show u = Value.none from ru); exact .none
  | bl b => cases (show u = Value.bool b from ru); exact .bool b
  | int i => obtain ⟨t, rfl⟩ := ru; exact .int i t
  | str x => obtain ⟨t, rfl⟩ := ru; exact .str x t
  | _ => cases f
theorem valV_map_flat {k : List Key} : ∀ la : List (List Key × D), valV (la.map fun q => (q.1, flatOf q.2)) k = (lookK la k).map flatOf
  | [] => rfl
  | q :: la => by
    rw [List.map_cons]
    by_cases e : q.1 = k
    · rw [valV_pos (p := (q.1, flatOf q.2)) e, lookK_pos e]; rfl
    · rw [valV_neg (p := (q.1, flatOf q.2)) e, lookK_neg e, valV_map_flat la]
theorem look_mem {κ α : Type} [DecidableEq κ] {k : κ} {v : α} : ∀ {la : List (κ × α)}, (la.map (·.1)).Nodup → (k, v) ∈ la → lookK la k = some v
  | [], _, h => by cases h
  | q :: la, hn, h => by
    rw [List.map_cons, List.nodup_cons] at hn
    rcases List.mem_cons.mp h with e | h
    · subst e; exact lookK_pos rfl
    · rw [lookK_neg fun z => hn.1 (by rw [z]; exact List.mem_map.mpr ⟨_, h, rfl⟩)]
      exact look_mem hn.2 h
theorem lookK_in {κ α : Type} [DecidableEq κ] {k : κ} {v : α} {la : List (κ × α)} (h : lookK la k = some v) : (k, v) ∈ la := by
  unfold lookK at h
  obtain ⟨q, hq, rfl⟩ := Option.map_eq_some_iff.mp h
  have e : q.1 = k := by simpa using List.find?_some hq
  rw [← e]
  exact List.mem_of_find?_eq_some hq
def RdT (H : Hp) (a : Addr) (la : List (List Key × D)) : Prop := Rd H a (.dT (la.map fun q => (q.1, flatOf q.2))) ∨ (la = [] ∧ Rd H a (.dK []))
theorem RdT.at {pins : List (Addr × Obj)} {σ : L2.St} {H : Hp} {s : Shared} {a : Addr} {la : List (List Key × D)} (I : Inv X pins σ H s) (h : RdT H a la) : (a == sysModules) = false ∧ ∃ xs, KT H (la.map fun q => (q.1, flatOf q.2)) xs ∧ s.heap.DictOfH (tupleKind (mixKind X.prog X.w)) a xs := by
  rcases h with h | ⟨rfl, h⟩
  · obtain ⟨_, h2, h3⟩ := dt_rd I.hok h
    exact ⟨h2, h3⟩
  · obtain ⟨h2, h3⟩ := emptyH I h
    exact ⟨h2, [], .nil, h3⟩
def rEqT : R2 := fun x y H Q => ∃ (a b : Addr) (la lb : List (List Key × D)), x = .ref a ∧ y = .ref b ∧ RdT H a la ∧ RdT H b lb ∧
  (la.all fun q => okV q.2) = true ∧ (lb.all fun q => okV q.2) = true ∧ Q (.bl (eqT la lb)) H
theorem KT.keysEq {H : Hp} : ∀ {kvs : List (List Key × V)} {xs : List (List Key × Addr × Value)}, KT H kvs xs → xs.map (·.1) = kvs.map (·.1)
  | _, _, .nil => rfl
  | _, _, .cons h t => by rw [List.map_cons, List.map_cons, KT.keysEq t, h.1]
theorem or_eqT {k : Nat} (hr : Room k X.A) : OpR X (compareOp .Eq) rEqT := by
  have hu : X.A.units + 1 < cLine := by have := hr.un; omega
  intro pins s σ H x y v u Q I rx ry h
  obtain ⟨a, b, la, lb, rfl, rfl, h1, h2, f1, f2, q⟩ := h
  cases (show v = Value.ref a from rx)
  cases (show u = Value.ref b from ry)
  obtain ⟨m1, xa, ra, da⟩ := h1.at I
  obtain ⟨m2, xb, rb, db⟩ := h2.at I
  have na : (xa.map (·.1)).Nodup := by obtain ⟨_, _, _, _, _, _, _, _, n⟩ := da; exact n
  have ka : xa.map (·.1) = la.map (·.1) := by rw [KT.keysEq ra, List.map_map]; rfl
  have lena : xa.length = la.length := by simpa using congrArg List.length ka
  have lenb : xb.length = lb.length := by have := congrArg List.length (KT.keysEq rb); simpa using this
  let ev : List Key → Bool := fun k => match lookK la k, lookK lb k with
    | some d, some e => PyData.eqv d e
    | _, _ => false
  have hB : ∀ k, (atKey xb k).isSome = (lookK lb k).isSome := fun k => by
    have z := (rb.val k).isSome_eq
    rw [valV_map_flat, Option.isSome_map, Option.isSome_map] at z
    exact z.symm
  have key : sameH xa xb ev = la.all fun q => match lookK lb q.1 with
      | some y => PyData.eqv q.2 y
      | none => false := by
    have e1 : sameH xa xb ev = (xa.map (·.1)).all fun k => (lookK lb k).isSome && ev k := by
      unfold sameH
      rw [List.all_map]
      congr 1
      funext t
      show ((atKey xb t.1).isSome && ev t.1) = ((lookK lb t.1).isSome && ev t.1)
      rw [hB]
    rw [e1, ka, List.all_map]
    rw [Bool.eq_iff_iff, List.all_eq_true, List.all_eq_true]
    refine forall_congr' fun q => imp_congr_right fun hq => ?_
    have e2 : lookK la q.1 = some q.2 := look_mem (ka ▸ na) hq
    show ((lookK lb q.1).isSome && ev q.1) = true ↔ _
    simp only [ev, e2]
    cases lookK lb q.1 <;> simp
  refine eqH (ev := ev) (tupleKind_room_in1 hu) (by omega) m1 m2 da db (fun k p q hp hq => ?_) ?_
  · have pa : atKey xa k = some p := by
      obtain ⟨j, hj⟩ := List.mem_iff_getElem?.mp hp
      exact at_some na hj
    have va := ra.val k
    have vb := rb.val k
    rw [pa, valV_map_flat] at va
    rw [hq, valV_map_flat] at vb
    simp only [ev]
    cases e1 : lookK la k with
    | none => rw [e1] at va; exact va.elim
    | some d =>
      cases e2 : lookK lb k with
      | none => rw [e2] at vb; exact vb.elim
      | some e =>
        rw [e1] at va
        rw [e2] at vb
        have ⟨fd, cd⟩ := Bool.and_eq_true_iff.mp ((List.all_eq_true.mp f1) _ (lookK_in e1))
        have ⟨fe, ce⟩ := Bool.and_eq_true_iff.mp ((List.all_eq_true.mp f2) _ (lookK_in e2))
        have r1 := flat_reads (h := s.heap) (Rp.flat (K := X.K) (F := fun _ => none) fd) fd va
        have r2 := flat_reads (h := s.heap) (Rp.flat (K := X.K) (F := fun _ => none) fe) fe vb
        refine SeqAt.eqAt_reads d e _ s _ _ _ _ r1 r2 cd ce ?_
        have : d.depth = 0 := by cases d <;> first | (simp [PyData.depth]; done) | cases fd
        rw [this, Nat.zero_min]
        show X.A.units + 1 + 0 < cLine
        omega
  · refine ⟨.bl (eqT la lb), H, I, ?_, q⟩
    show Value.bool _ = Value.bool _
    rw [key, lena, lenb]
    rfl
theorem flat_vals {K : PySem.W.Frag} {F : Hp} : ∀ {kvs : List (List Key × V)} {la : List (List Key × D)}, kvs.map (·.1) = la.map (·.1) → RpL K F (kvs.map (·.2)) (la.map (·.2)) → (la.all fun q => okV q.2) = true → kvs = la.map fun q => (q.1, flatOf q.2)
  | [], [], _, _, _ => rfl
  | [], _ :: _, h, _, _ => by cases h
  | _ :: _, [], h, _, _ => by cases h
  | a :: as, b :: bs, h, r, f => by
    simp only [List.map_cons, List.cons.injEq] at h
    simp only [List.all_cons, Bool.and_eq_true] at f
    cases r with
    | cons r1 r2 =>
      rw [List.map_cons, ← flat_vals h.2 r2 f.2, ← r1.flat_eq (Bool.and_eq_true_iff.mp f.1).1, ← h.1]
theorem rdT_rp {K : PySem.W.Frag} {F H : Hp} {v : V} {kvs : List (D × D)} {la : List (List Key × D)} (s : Sub F H) (r : Rp K F v (.dict kvs)) (h : dictT kvs = some la) (f : (la.all fun q => okV q.2) = true) : ∃ a, v = .ref a ∧ RdT H a la := by
  generalize hd : PyData.dict kvs = dd at r
  cases r with
  | dK hr hk rl =>
    rename_i a kv kds
    cases hd
    obtain ⟨e1, e2⟩ := dictT_K h
    subst e1 e2
    have e3 : kv = [] := by simpa using hk
    subst e3
    exact ⟨a, rfl, .inr ⟨rfl, s.rd _ _ hr⟩⟩
  | dT hr hk rl =>
    rename_i a kv kds
    cases hd
    rw [dictT_of] at h
    cases h
    refine ⟨a, rfl, .inl ?_⟩
    rw [← flat_vals hk rl f]
    exact s.rd _ _ hr
  | _ => cases hd
theorem eq_dP {K : PySem.W.Frag} : OpP K rEqT eqDT := by
  intro F H x y d1 d2 d Q s r1 r2 h
  unfold eqDT at h
  split at h
  · obtain ⟨l1, h1, h⟩ := Option.bind_eq_some_iff.mp h
    obtain ⟨l2, h2, h⟩ := Option.bind_eq_some_iff.mp h
    split at h
    · rename_i hz
      cases h
      rw [Bool.and_eq_true] at hz
      obtain ⟨a, rfl, g1⟩ := rdT_rp s r1 h1 hz.1
      obtain ⟨b, rfl, g2⟩ := rdT_rp s r2 h2 hz.2
      exact ⟨rfl, fun q => ⟨a, b, l1, l2, rfl, rfl, g1, g2, hz.1, hz.2, q⟩⟩
    · cases h
  · cases h
/-- ==, of sequences and of dicts -/
def eqA (d1 d2 : D) : Option D := match d1, d2 with
  | .dict _, .dict _ => eqDT d1 d2
  | _, _ => eqD d1 d2
theorem od_eqA {k : Nat} (hr : Room k X.A) : OpD X (compareOp .Eq) eqA := by
  obtain ⟨r, h1, h2⟩ := od_eq hr
  exact ⟨_, OpR.or h1 (or_eqT hr), opv_cases h2 eq_dP.v fun x y => by unfold eqA; split <;> first | exact .inr rfl | exact .inl rfl⟩
/-! ### d[k] -/
def rDGet : R2 := fun x y H Q => ∃ a v, x = .ref a ∧ DGet H a y (some v) ∧ Q v H
theorem ix_dict {k : Nat} (hr : Room k X.A) : IxR X rDGet := by
  have hu : X.A.units + 1 < cLine := by have := hr.un; omega
  intro value slice pins s σ H x y v u Q I rx ry h hs
  obtain ⟨a, w, rfl, g, q⟩ := h
  cases (show v = Value.ref a from rx)
  have hT := dict_typeIs I g
  unfold PyProof.Rows.subscriptTail
  refine wpAny_bind ?_
  rw [getitemInPython_of_ne hT.not_modules]
  refine wpAny_bind (wpAny_specialOf hT PySem.F.slot_dict_getitem.lookup ?_)
  have fin : wpAny (model X.prog X.w) X.A (subscripted slice false (.ref a) u) (fun r t => wpAny (model X.prog X.w) X.A (do letTemporaryGo value (.ref a) r; pure r) (EP X pins σ Q) X.xe t) X.xe s := by
    rw [hs]
    exact wpAny_operating (d_getItem hu I g ry fun w' s' I' rw' => wpAny_bind (wpAny_letTemporaryGo (wpAny_pure ⟨w, H, I', rw', q⟩)))
  first
    | exact wpAny_pure (wpAny_bind fin)
    | exact wpAny_bind (wpAny_pure (wpAny_bind fin))
    | exact wpAny_bind fin
def ixDD (d1 d2 : D) : Option D := match d1 with
  | .dict kvs => (getDD kvs d2).bind id
  | _ => none
theorem opv_dget {K : PySem.W.Frag} : OpV K rDGet ixDD := by
  intro W bv e σ F H fp x y d1 d2 Q S r1 r2 q
  obtain ⟨d, hd, q'⟩ := q.lif
  unfold ixDD at hd
  split at hd
  · obtain ⟨o, ho, hd⟩ := Option.bind_eq_some_iff.mp hd
    cases (show o = some d from hd)
    obtain ⟨a, ov, rfl, g, hh⟩ := get_rp S.sub r1 r2 ho
    rcases hh with ⟨z, _⟩ | ⟨d', w, z, rfl, rw'⟩
    · cases z
    · cases z
      rcases g with g | ⟨z, _⟩ | ⟨z, _⟩
      · exact ⟨a, w, rfl, g, AtG.here (r := rD K) S q' rw'⟩
      · cases z
      · cases z
  · cases hd
def ixA (d1 d2 : D) : Option D := match d1 with
  | .dict _ => ixDD d1 d2
  | _ => ixD d1 d2
theorem de_ixA {k : Nat} (hr : Room k X.A) (ha : DE X W bv a fa) (hb : DE X W bv b fb) (hs : PlainIx b := by exact fun _ _ => rfl) : DE X W bv (.Subscript a b pos) (bin ixA fa fb) :=
  pe_imp (pe_ix (ix_seq.or (ix_dict hr)) ha hb hs) fun σ H Q t => tOp_of (opv_cases opv_ix opv_dget fun x y => by unfold ixA; split <;> first | exact .inr rfl | exact .inl rfl) t
/-! ### an owned thing's item -/
def itemA (i : Nat) (y : D) (e : Env) : Option D := match e[i]? with
  | some (some (.ls ms)) => match y with
    | .int k => match atI ms k with
      | some (.im d) => some d
      | _ => none
    | _ => none
  | some (some (.dk kms)) => match kOf y with
    | some k => match lookK kms k with
      | some (.im d) => some d
      | _ => none
    | none => none
  | some (some (.dt kms)) => match ksOf y with
    | some k => match lookK kms k with
      | some (.im d) => some d
      | _ => none
    | none => none
  | _ => none
def pkIxA (i : Nat) (fb : EM D) : EM D := chk i (bnd fb fun y e => lif (itemA i y e) e)
theorem itemA_at {K : PySem.W.Frag} {e : Env} {σ : L2.St} {F H : Hp} {fp : Nat → List Addr} {i : Nat} {y : V} {yd d : D} {Q : VK} (S : SS K bv e σ F H fp) (ry : Rp K F y yd) (h : itemA i yd e = some d) :
    ∃ v w, σ[i]? = some (some v) ∧ Rp K F w d ∧ (Q w H → rIx K v y H Q ∨ rDGet v y H Q) := by
  unfold itemA at h
  split at h
  · rename_i ms he
    split at h
    · rename_i k
      cases ry
      obtain ⟨a, vs, v, h1, h2, h3, h4⟩ := item_at (i := i) (k := k) (d := d) S (by unfold itemM; rw [he]; exact h)
      exact ⟨_, v, h1, h4, fun q => .inl (.inl ⟨_, _, _, _, rfl, rfl, SqL.of h2, h3, q⟩)⟩
    · cases h
  · rename_i kms he
    obtain ⟨a, kvs, fpl, h1, h2, h3, h4, h5, h6⟩ := S.dkAt he
    split at h
    · rename_i k hk
      have ey := ry.key hk
      subst ey
      rcases look_own (k := k) h4 h5 with ⟨e1, _⟩ | ⟨v, m, l, e1, e2, o, _⟩
      · rw [e1] at h; cases h
      · rw [e2] at h
        split at h
        · rename_i z
          cases h
          cases z
          cases o
          refine ⟨_, v, h1, by assumption, fun q => .inr ⟨a, v, rfl, ?_, q⟩⟩
          rw [← e1]
          exact DGet.k h2
        · cases h
    · cases h
  · rename_i kms he
    obtain ⟨a, kvs, fpl, h1, h2, h3, h4, h5, h6⟩ := S.dtAt he
    split at h
    · rename_i k hk
      obtain ⟨b, rfl, hb⟩ := ry.keyT hk
      rcases look_own (k := k) h4 h5 with ⟨e1, _⟩ | ⟨v, m, l, e1, e2, o, _⟩
      · rw [e1] at h; cases h
      · rw [e2] at h
        split at h
        · rename_i z
          cases h
          cases z
          cases o
          refine ⟨_, v, h1, by assumption, fun q => .inr ⟨a, v, rfl, ?_, q⟩⟩
          rw [← e1]
          exact DGet.t h2 (S.sub.tp _ _ hb)
        · cases h
    · cases h
  · cases h
theorem de_ixPA (i : Nat) {k : Nat} (hr : Room k X.A) (hb : DE X W bv b fb) (hN : X.N[i]? = some x := by rfl) (hv : Vis X.env.scope x := by first | exact Or.inl rfl | exact Or.inr (Or.inl rfl) | exact Or.inr (Or.inr rfl)) (hd : (x == ("__debug__" : Str)) = false := by decide) (hcd : (x == ("__classdict__" : Str)) = false := by decide)
    (hs : PlainIx b := by exact fun _ _ => rfl) : DE X W bv (.Subscript (.Name x px) b pos) (pkIxA i fb) :=
  pe_imp (pe_ix (ix_seq.or (ix_dict hr)) (pe_var hN hv hd hcd) hb hs) fun σ H Q t => by
    obtain ⟨v, hv, e, F, fp, S, q⟩ := chk_tG t
    refine ⟨v, hv, tG.mono (AtG.bnd' (r := rD X.K) S q) fun y H2 ⟨d2, e2, F2, fp2, s2, S2, r2, q2⟩ => ?_⟩
    obtain ⟨d, hd', q3⟩ : ∃ d, itemA i d2 e2 = some d ∧ AtG X.K W bv (smp (rD X.K)) (ret d) e2 σ F2 H2 fp2 Q := by
      unfold AtG at q2
      dsimp only at q2
      cases hh : itemA i d2 e2 with
      | none => rw [hh] at q2; exact q2.elim
      | some d => rw [hh] at q2; exact ⟨d, rfl, q2⟩
    obtain ⟨v', w, h1, h2, h3⟩ := itemA_at (Q := Q) S2 r2 hd'
    rw [hv] at h1
    cases h1
    exact h3 (AtG.here (r := rD X.K) S2 q3 h2)
end
end FD

/-! FD: enumerate over lists and tuples. -/
namespace FD
open PySem L2 PyProof.Rows
theorem enum_newB {v : Value} {o : Obj} {H : Heap → Prop} (B : Begins v o H) :
    Meets (Builtin.«enumerate.__new__» ⟨[.type "enumerate", v], []⟩) (fun _ R s => H s.heap ∧ R (.ok (.ret (.ref (s.heap.push o).objs.size))) { s with heap := (s.heap.push o).push { cls := .type "enumerate", data := .fields #[.none, .bool false, .ref s.heap.objs.size, rawInt 0, .none, .none] } }) :=
  .of_wp fun prog w A R s hh => by
    obtain ⟨hp, g, d, tk, os⟩ := s
    obtain ⟨h1, h⟩ := hh
    have hsub := sub_enumerate
    have step : ∀ {A' : Around} {E : Value → Shared → Prop} {Q : Value → Shared → Prop}, Q (.ref hp.objs.size) ⟨hp.push o, g, d, tk, os⟩ → wpAny (model prog w) A' (pyIter v) Q E ⟨hp, g, d, tk, os⟩ := fun q => B.iter prog w _ _ ⟨hp, g, d, tk, os⟩ _ h1 q
    wp_walk using step
    refine wpAny_stack_any fun st => wpAny_pure ?_
    split
    · rename_i c _ _ _ _ _
      cases (c == Value.type "enumerate") <;> (wp_walk using step; exact ⟨_, rfl, h⟩)
    · wp_walk using step
      exact ⟨_, rfl, h⟩
theorem enum_begin {prog : Program} {w : World} {A : Around} {E : Value → Shared → Prop} {s : Shared} {v : Value} {o : Obj} {H : Heap → Prop} {Q : Value → Shared → Prop} (B : Begins v o H) (h1 : H s.heap)
    (h : ∀ h', IsEnum h' (s.heap.objs.size + 1) s.heap.objs.size 0 .none → h'.get? s.heap.objs.size = some o → (∀ b o, s.heap.get? b = some o → h'.get? b = some o) → Q (.ref (s.heap.objs.size + 1)) { s with heap := h' }) :
    wpAny (model prog w) A (call (.type "enumerate") [v]) Q E s := by
  refine callType_new F.called_enumerate (by decide) (F.typeCall_enumerate_1 _) (F.newCall_enumerate_1 _) (fun obj => F.args_object_init_2 obj _) F.entry_enumerate_new (enum_newB B) ⟨h1, ?_⟩
  have hz : (s.heap.push o).objs.size = s.heap.objs.size + 1 := Heap.size_push ..
  have he := Heap.get?_push_size (s.heap.push o) (o := { cls := .type "enumerate", data := .fields #[.none, .bool false, .ref s.heap.objs.size, rawInt 0, .none, .none] }) rfl
  rw [hz] at he
  show _ ∧ _
  rw [hz]
  exact ⟨⟨_, he, rfl⟩, h _ he (Heap.get?_push_of_some _ (Heap.get?_push_size _ B.free)) fun b o x => Heap.get?_push_of_some _ (Heap.get?_push_of_some _ x)⟩
/-- the tuple at a, each item in a new pair -/
def ItTe (K : PySem.W.Frag) (a : Addr) : It where
  go i H := ∃ (xs : List V) (x : V), SqT K H a xs ∧ xs[i]? = some x
  yld i H v H' := ∃ T x, v = .ref T ∧ H T = none ∧ H' = upd H T (.tup [.int (i : Nat), x]) ∧ ∀ xs, SqT K H a xs → xs[i]? = some x
  stop i H := ∃ xs : List V, SqT K H a xs ∧ i = xs.length
def EnT (a e it : Addr) (i : Nat) (h : Heap) : Prop := (∃ old, IsEnum h e it ((i : Nat) : Int) old) ∧ h.IsTupleIter it a i ∧ e ≠ it ∧ a ≠ it ∧ a ≠ e
theorem turn_enumT {P : Program} {w : World} {K : PySem.W.Frag} {elts : List Expr} {kk : Nat} {tpos : Pos} (a e it : Addr) : Turn P w K (.Tuple elts kk tpos) (ItTe K a) [e, it] e (EnT a e it) where
  mem := List.mem_cons_self
  obj := fun i h st b hb => by
    obtain ⟨⟨old, he⟩, ⟨o, ho, hc, hd⟩, _⟩ := st
    rcases (by simpa using hb : b = e ∨ b = it) with z | z
    · rw [z]; exact ⟨_, he, fun v q => nomatch q⟩
    · rw [z]; exact ⟨o, ho, fun v q => by rw [hd] at q; cases q⟩
  keep := fun i h h' st k => by
    obtain ⟨⟨old, he⟩, hi, hn⟩ := st
    exact ⟨⟨old, k e (by simp) _ he⟩, hi.at fun o q => k it (by simp) o q, hn⟩
  item := by
    intro X hP hw hK hc i pins s σ H E I hf st hg
    subst hP hw hK
    obtain ⟨⟨old, he⟩, hit, hne, hai, hae⟩ := st
    obtain ⟨xs, x, hq, hx⟩ := hg
    obtain ⟨its, rv, ip, hz⟩ := I.tuple hq
    obtain ⟨u, hu, ru⟩ := rv.get hx
    have hel : e < s.heap.objs.size := Heap.lt_size he
    have hil : it < s.heap.objs.size := by obtain ⟨_, q, _⟩ := hit; exact Heap.lt_size q
    have ilt : i < its.toArray.size := by
      have := (List.getElem?_eq_some_iff.mp hu).1
      simpa using this
    have tup : s.heap.IsTuple a its.toArray := ip
    refine wpAny_pyNext_enum_itemC (Draws.tuple (A := X.A.in1) (I.ok.hd hc) it a hai its.toArray) he ⟨hit, tup⟩ ilt hne (by simp [hne, Ne.symm hae]) fun x' h' tk hpx ho st' hT hsz hk => ?_
    have ex : x' = u := by
      have : its.toArray[i]? = some u := by simpa using hu
      rw [this] at hpx
      exact (Option.some.inj hpx).symm
    subst ex
    refine ⟨_, rfl, wpAny_letOwnedTupleGo_enum (s := { s with heap := h', toks := tk + 1 }) ho fun h'' he' sb => ?_⟩
    have hT2 := (sb.2 _ (Nat.ne_of_gt hel)).trans hT
    have new : ObjOk X.prog X.w (upd H s.heap.objs.size (.tup [.int (i : Nat), x])) h'' s.heap.objs.size (.tup [.int (i : Nat), x]) := ⟨by show 2 ≤ sizeLine; decide, [.int i tk, x'], .cons ⟨_, rfl⟩ (.cons ru .nil), ⟨_, hT2, rfl, _, rfl⟩⟩
    have I1 : Inv X pins σ (upd H s.heap.objs.size (.tup [.int (i : Nat), x])) { s with heap := h'', toks := tk + 1 } :=
      I.turnedNew (ch := [e, it]) (fun b ob hb q => (sb.2 b fun z => hb (by simp [z])).trans (hk b ob (fun z => hb (by simp [z])) (fun z => hb (by simp [z])) q)) hf (Nat.le_refl _) new
    refine ⟨.ref s.heap.objs.size, _, I1, rfl, ⟨_, x, rfl, I.hok.fresh (Nat.le_refl _), rfl, fun ys hy => by rw [I.tuple_inj hy hq]; exact hx⟩, ⟨⟨x', ?_⟩, st'.1.at fun o q => (sb.2 it (Ne.symm hne)).trans q, hne, hai, hae⟩, fun b hb => ?_⟩
    · rw [show ((i + 1 : Nat) : Int) = (i : Int) + 1 by omega]
      exact he'
    · have lt : b < s.heap.objs.size := by
        rcases (by simpa using hb : b = e ∨ b = it) with z | z <;> rw [z] <;> assumption
      rw [upd_ne (Nat.ne_of_lt lt)]
      exact (hf b hb).1
  done := by
    intro X hP hw hK hc i pins s σ H E I hf st hg
    subst hP hw hK
    obtain ⟨⟨old, he⟩, hit, hne, hai, hae⟩ := st
    obtain ⟨xs, hq, hx⟩ := hg
    obtain ⟨its, rv, ip, hz⟩ := I.tuple hq
    obtain ⟨f0, f1, f2, f3, f4, f5⟩ := hf it (by simp)
    have hl : i = its.toArray.size := by rw [hx, rv.length]; simp
    rw [hl] at hit
    exact wpAny_pyNext_enum_endD (Draws.tuple (A := X.A.in1) (I.ok.hd hc) it a hai its.toArray) he ⟨hit, ip⟩ fun h' eb => ⟨rfl, I.turned (t' := s.toks) (fun b o hb q => eb b o hb q) f0 f1 f3 f4 f5⟩
  self := fun A i s Q E st h => by
    obtain ⟨⟨_, he⟩, _⟩ := st
    exact wpAny_pyIter_enum he h
/-! ### the walks as data -/
section
variable {X : Cx} {W : WX} {bv : Nat → Option V} {pos p tpos : Pos} {a b : Expr} {fa fb : EM D} {fs : EM (List D)} {elts : List Expr} {kk : Nat}
def iEnT (K : PySem.W.Frag) (ta : TA) : TI := fun σ H R => ta σ H fun vs H1 => ∃ a xs, vs = [.ref a] ∧ SqT K H1 a xs ∧ R (ItTe K a) H1
theorem pi_enT {e : Expr} {ta : TA} (hg : Gl X "enumerate") (hm : X.mg "enumerate" = none) (ha : PA X [e] ta) (hs : starEach [e] X.env = [(false, eval e X.env)] := by rfl) : PI X (.Tuple elts kk tpos) (.Call (.Name "enumerate" p) [e] [] pos) (iEnT X.K ta) := by
  refine ⟨fun pins s σ H R I h => Call_ (ld_blt I hg hm boot_enumerate (PyProof.Rows.callWith_type1 (thn (ha.run pos pins s σ H _ I h) fun us s1 ⟨vs, H1, I1, r1, q1⟩ => ?_) hs rfl))⟩
  obtain ⟨a, xs, ex, hq, q⟩ := q1
  subst ex
  rw [Vals.ref1 r1]
  obtain ⟨its, rv, ip, hz⟩ := I1.tuple hq
  have alt : a < s1.heap.objs.size := ip.lt
  refine enum_begin (begins_tuple a its.toArray) ip fun h' he hit hk => wpAny_pyIter_enum he ?_
  have I2 : Inv X pins σ H1 { s1 with heap := h' } := I1.kept (t' := s1.toks) hk
  refine ⟨s1.heap.objs.size + 1, [s1.heap.objs.size + 1, s1.heap.objs.size], _, _, H1, rfl, I2, turn_enumT a (s1.heap.objs.size + 1) s1.heap.objs.size, ⟨⟨.none, he⟩, ⟨_, hit, rfl, rfl⟩, Nat.succ_ne_self _, Nat.ne_of_lt alt, Nat.ne_of_lt (Nat.lt_succ_of_lt alt)⟩, fun b hb => ?_, q⟩
  have hle : s1.heap.objs.size ≤ b := by
    rcases (by simpa using hb : b = s1.heap.objs.size + 1 ∨ b = s1.heap.objs.size) with z | z
    · rw [z]; exact Nat.le_succ _
    · rw [z]; exact Nat.le_refl _
  exact I1.fpOk hle (I1.hok.fresh hle)
def enumDs (ds : List D) : List D := ds.zipIdx.map fun q => .tuple [.int (q.2 : Nat), q.1]
theorem enum_get {ds : List D} {i : Nat} {d : D} (h : (enumDs ds)[i]? = some d) : ∃ y, ds[i]? = some y ∧ d = .tuple [.int (i : Nat), y] := by
  unfold enumDs at h
  rw [List.getElem?_map] at h
  obtain ⟨q, hq, rfl⟩ := Option.map_eq_some_iff.mp h
  rw [List.getElem?_zipIdx] at hq
  obtain ⟨y, hy, rfl⟩ := Option.map_eq_some_iff.mp hq
  exact ⟨y, hy, by simp⟩
theorem enum_len {ds : List D} : (enumDs ds).length = ds.length := by simp [enumDs]
def enL : List D → Option (List D)
  | [.list ds] => some (enumDs ds)
  | _ => none
def enT : List D → Option (List D)
  | [.tuple ds] => some (enumDs ds)
  | _ => none
def enA : List D → Option (List D)
  | [.list ds] => some (enumDs ds)
  | [.tuple ds] => some (enumDs ds)
  | _ => none
theorem grow_pair {K : PySem.W.Frag} {F F' H : Hp} {T : Addr} {i : Nat} {v : V} {y : D} (s1 : Sub F F') (s2 : Sub F' H) (rv : Rp K F v y) (hT : H T = none) : ∃ F'', Grow F' H F'' (upd H T (.tup [.int (i : Nat), v])) ∧ Rp K F'' (.ref T) (.tuple [.int (i : Nat), y]) :=
  ⟨_, .inr (.inl ⟨T, _, hT, rfl, rfl⟩), .tup upd_same (.cons (.int _) (.cons ((rv.mono s1).mono (Sub.new (s2.non hT))) .nil))⟩
theorem di_enL (hm : X.mg "enumerate" = none) (ha : DA X W bv [a] fs) (hg : Gl X "enumerate" := by rfl) (hs : starEach [a] X.env = [(false, eval a X.env)] := by rfl) : DI X W bv (.Tuple elts kk tpos) (.Call (.Name "enumerate" p) [a] [] pos) (itA enL fs) :=
  pi_imp (pi_enum hg hm ha hs) fun σ H R t => tG.mono (tI_bndA t) fun x H1 ⟨d, e1, F1, fp1, ds, S1, r1, hk, q⟩ => by
    unfold enL at hk
    split at hk
    · rename_i ds0
      cases hk
      cases r1 with
      | cons r1 r =>
        cases r
        cases r1 with
        | lst hl rl =>
          refine ⟨_, _, rfl, S1.sub.l hl, q _ F1 H1 fp1 (Stp.refl _ _ _) S1 fun F' H' i s1 s2 => ⟨fun d hd => ?_, fun h1 h2 => ⟨_, s2.l (s1.l hl), by rw [rl.length]; rw [enum_len] at h1; exact h1⟩⟩⟩
          obtain ⟨y, hy, rfl⟩ := enum_get hd
          obtain ⟨v, hv, rv⟩ := rl.get hy
          refine ⟨⟨_, v, s2.l (s1.l hl), hv⟩, fun x H'' ⟨T, x', e1, e2, e3, e4⟩ => ?_⟩
          have := e4 _ (s2.l (s1.l hl))
          rw [hv] at this
          cases this
          subst e1 e3
          exact grow_pair s1 s2 rv e2
    · cases hk
theorem di_enT (hm : X.mg "enumerate" = none) (ha : DA X W bv [a] fs) (hg : Gl X "enumerate" := by rfl) (hs : starEach [a] X.env = [(false, eval a X.env)] := by rfl) : DI X W bv (.Tuple elts kk tpos) (.Call (.Name "enumerate" p) [a] [] pos) (itA enT fs) :=
  pi_imp (pi_enT hg hm ha hs) fun σ H R t => tG.mono (tI_bndA t) fun x H1 ⟨d, e1, F1, fp1, ds, S1, r1, hk, q⟩ => by
    unfold enT at hk
    split at hk
    · rename_i ds0
      cases hk
      cases r1 with
      | cons r1 r =>
        cases r
        cases r1 with
        | tup hl rl =>
          refine ⟨_, _, rfl, S1.sub.t hl, q _ F1 H1 fp1 (Stp.refl _ _ _) S1 fun F' H' i s1 s2 => ⟨fun d hd => ?_, fun h1 h2 => ⟨_, (s1.trans s2).t hl, by rw [rl.length]; rw [enum_len] at h1 h2; omega⟩⟩⟩
          obtain ⟨y, hy, rfl⟩ := enum_get hd
          obtain ⟨v, hv, rv⟩ := rl.get hy
          refine ⟨⟨_, v, (s1.trans s2).t hl, hv⟩, fun x H'' ⟨T, x', e1, e2, e3, e4⟩ => ?_⟩
          have := e4 _ ((s1.trans s2).t hl)
          rw [hv] at this
          cases this
          subst e1 e3
          exact grow_pair s1 s2 rv e2
    · cases hk
/-- by what the denotation says, one rule or another -/
theorem pi_case {tg iter : Expr} {f : EM (List D)} (h : ∀ e : Env, ∃ g : EM (List D), g e = f e ∧ DI X W bv tg iter g) : DI X W bv tg iter f :=
  ⟨fun pins s σ H R I ⟨e, F, fp, S, q⟩ => by
    obtain ⟨g, hg, hd⟩ := h e
    refine hd.run pins s σ H R I ⟨e, F, fp, S, ?_⟩
    rw [hg]
    exact q⟩
theorem di_enum (hm : X.mg "enumerate" = none) (ha : DA X W bv [a] fs) (hg : Gl X "enumerate" := by rfl) (hs : starEach [a] X.env = [(false, eval a X.env)] := by rfl) : DI X W bv (.Tuple elts kk tpos) (.Call (.Name "enumerate" p) [a] [] pos) (itA enA fs) :=
  pi_case fun e => by
    unfold itA bnd
    cases z : fs e with
    | no => exact ⟨itA enL fs, by unfold itA bnd; rw [z], di_enL hm ha hg hs⟩
    | ex C fs' e' => exact ⟨itA enL fs, by unfold itA bnd; rw [z], di_enL hm ha hg hs⟩
    | ok ds e1 =>
      by_cases hz : enA ds = enL ds
      · exact ⟨itA enL fs, by unfold itA bnd; rw [z]; dsimp only; rw [hz], di_enL hm ha hg hs⟩
      · refine ⟨itA enT fs, ?_, di_enT hm ha hg hs⟩
        unfold itA bnd
        rw [z]
        dsimp only
        have : enT ds = enA ds := by
          unfold enA at hz ⊢
          split at hz
          · exact absurd rfl hz
          · rfl
          · exact absurd (by unfold enL; split <;> simp_all) hz
        rw [this]
theorem di_seq {tg : Expr} (h : DE X W bv a fa) : DI X W bv tg a (itE itD fa) :=
  pi_case fun e => by
    unfold itE bnd
    cases z : fa e with
    | no => exact ⟨itE itL fa, by unfold itE bnd; rw [z], di_list h⟩
    | ex C fs' e' => exact ⟨itE itL fa, by unfold itE bnd; rw [z], di_list h⟩
    | ok d e1 =>
      cases d with
      | tuple ds => exact ⟨itE itT fa, by unfold itE bnd; rw [z]; rfl, di_tup h⟩
      | str ds => exact ⟨itE itS fa, by unfold itE bnd; rw [z]; rfl, di_str h⟩
      | _ => exact ⟨itE itL fa, by unfold itE bnd; rw [z]; rfl, di_list h⟩
end
end FD

/-! FD: calls with keywords. -/
namespace FD
open PySem L2
def pick {α : Type} (l ds : List α) (ix : List (Nat ⊕ Nat)) : List α := ix.filterMap fun j => match j with
  | .inl j => l[j]?
  | .inr j => ds[j]?
def okIx (n m : Nat) (ix : List (Nat ⊕ Nat)) : Bool := ix.all fun j => match j with
  | .inl j => decide (j < n)
  | .inr j => decide (j < m)
/-- what holds of one and one, of lists -/
inductive Two {α β : Type} (R : α → β → Prop) : List α → List β → Prop
  | nil : Two R [] []
  | cons {a : α} {b : β} {as : List α} {bs : List β} : R a b → Two R as bs → Two R (a :: as) (b :: bs)
theorem Two.length {α β : Type} {R : α → β → Prop} : ∀ {as : List α} {bs : List β}, Two R as bs → as.length = bs.length
  | _, _, .nil => rfl
  | _, _, .cons _ t => by rw [List.length_cons, List.length_cons, t.length]
theorem Two.get {α β : Type} {R : α → β → Prop} : ∀ {as : List α} {bs : List β} {j : Nat} {a : α} {b : β}, Two R as bs → as[j]? = some a → bs[j]? = some b → R a b
  | _, _, _, _, _, .nil, h, _ => by simp at h
  | _, _, 0, _, _, .cons r _, h1, h2 => by simp at h1 h2; subst h1 h2; exact r
  | _, _, j + 1, _, _, .cons _ t, h1, h2 => t.get (j := j) (by simpa using h1) (by simpa using h2)
theorem Two.append {α β : Type} {R : α → β → Prop} : ∀ {as as' : List α} {bs bs' : List β}, Two R as bs → Two R as' bs' → Two R (as ++ as') (bs ++ bs')
  | _, _, _, _, .nil, t => t
  | _, _, _, _, .cons r s, t => .cons r (s.append t)
theorem Two.pick {α β : Type} {R : α → β → Prop} {as da : List α} {bs db : List β} (h : Two R as bs) (hd : Two R da db) : ∀ {ix : List (Nat ⊕ Nat)}, okIx as.length da.length ix = true → Two R (FD.pick as da ix) (FD.pick bs db ix)
  | [], _ => .nil
  | .inl j :: ix, ok => by
    simp only [okIx, List.all_cons, Bool.and_eq_true, decide_eq_true_eq] at ok
    have l2 : j < bs.length := by rw [← h.length]; exact ok.1
    show Two R (List.filterMap _ _) (List.filterMap _ _)
    rw [List.filterMap_cons, List.filterMap_cons]
    simp only [List.getElem?_eq_getElem ok.1, List.getElem?_eq_getElem l2]
    exact .cons (h.get (List.getElem?_eq_getElem ok.1) (List.getElem?_eq_getElem l2)) (Two.pick h hd ok.2)
  | .inr j :: ix, ok => by
    simp only [okIx, List.all_cons, Bool.and_eq_true, decide_eq_true_eq] at ok
    have l2 : j < db.length := by rw [← hd.length]; exact ok.1
    show Two R (List.filterMap _ _) (List.filterMap _ _)
    rw [List.filterMap_cons, List.filterMap_cons]
    simp only [List.getElem?_eq_getElem ok.1, List.getElem?_eq_getElem l2]
    exact .cons (hd.get (List.getElem?_eq_getElem ok.1) (List.getElem?_eq_getElem l2)) (Two.pick h hd ok.2)
theorem two_vals : ∀ {vs : List V} {us : List Value}, Vals vs us → Two RelV vs us
  | _, _, .nil => .nil
  | _, _, .cons r t => .cons r (two_vals t)
theorem vals_two : ∀ {vs : List V} {us : List Value}, Two RelV vs us → Vals vs us
  | _, _, .nil => .nil
  | _, _, .cons r t => .cons r (vals_two t)
/-- one argument -/
def rA1 (K : PySem.W.Frag) (σ : L2.St) (F : Hp) (x : V) : AR → Prop
  | .d d => Rp K F x d
  | .b s => σ[s]? = some (some x)
theorem two_ar {K : PySem.W.Frag} {σ : L2.St} {F : Hp} : ∀ {vs : List V} {as : List AR}, rAR K σ F vs as → Two (rA1 K σ F) vs as
  | [], [], _ => .nil
  | [], .d _ :: _, h => h.elim
  | [], .b _ :: _, h => h.elim
  | _ :: _, [], h => h.elim
  | _ :: _, .d _ :: _, h => .cons h.1 (two_ar h.2)
  | _ :: _, .b _ :: _, h => .cons h.1 (two_ar h.2)
theorem ar_two {K : PySem.W.Frag} {σ : L2.St} {F : Hp} : ∀ {vs : List V} {as : List AR}, Two (rA1 K σ F) vs as → rAR K σ F vs as
  | _, _, .nil => trivial
  | _, .d _ :: _, .cons r t => ⟨r, ar_two t⟩
  | _, .b _ :: _, .cons r t => ⟨r, ar_two t⟩
theorem rAR_mono {K : PySem.W.Frag} {σ : L2.St} {F G : Hp} (s : Sub F G) : ∀ {vs : List V} {as : List AR}, rAR K σ F vs as → rAR K σ G vs as
  | [], [], _ => trivial
  | [], .d _ :: _, h => h.elim
  | [], .b _ :: _, h => h.elim
  | _ :: _, [], h => h.elim
  | _ :: _, .d _ :: _, h => ⟨Rp.mono s h.1, rAR_mono s h.2⟩
  | _ :: _, .b _ :: _, h => ⟨h.1, rAR_mono s h.2⟩
theorem two_flat {K : PySem.W.Frag} {σ : L2.St} {F : Hp} : ∀ {ds : List D}, flatAll ds = true → Two (rA1 K σ F) (ds.map flatOf) (ds.map AR.d)
  | [], _ => .nil
  | d :: ds, h => by
    simp only [flatAll, List.all_cons, Bool.and_eq_true] at h
    exact .cons (Rp.flat h.1) (two_flat h.2)
/-- what a call with n positional values and the keywords ks binds: ix tells for each parameter where its value comes from, ds the defaults that are used -/
structure KBG (K : PySem.W.Frag) (fd : FuncData) (ps : List Str) (n : Nat) (ks : List Str) (ix : List (Nat ⊕ Nat)) (ds : List D) : Prop where
  ok : okIx (n + ks.length) ds.length ix = true
  fl : flatAll ds = true
  to : ∀ (s : Shared) (us ws : List Value), K.In s.heap → us.length = n → ws.length = ks.length → ∃ dus, Vals (ds.map flatOf) dus ∧ BindsTo s fd ⟨us, ks.zip ws⟩ (ps.zip (pick (us ++ ws) dus ix))
theorem kb_plain {K : PySem.W.Frag} {x qual : Str} {st : Stmt} {f : Addr} {fd : FuncData} {ps : List Str} (Fn : Fun K x qual st f fd) (n : Nat) (ks : List Str) (ix : List (Nat ⊕ Nat)) (ok : okIx (n + ks.length) 0 ix = true)
    (h : ∀ (kV doc pm : Value) (an : Option Addr) (cdv ct : Value) (us ws : List Value), us.length = n → ws.length = ks.length → bindArgs (PySem.W.fnOf x qual (defArgs st) (defBody st) (defScope st) .none kV doc pm an cdv ct) ⟨us, ks.zip ws⟩ = pure (ps.zip (pick (us ++ ws) [] ix))) : KBG K fd ps n ks ix [] where
  ok := ok
  fl := rfl
  to := fun s us ws X l1 l2 => by
    obtain ⟨oc, od, kV, doc, pm, an, cdv, ct, osl, rfl, lk, hcd⟩ := Fn.ex
    exact ⟨[], .nil, .of_eq (h kV doc pm an cdv ct us ws l1 l2)⟩
theorem Fun.of_D {K : PySem.W.Frag} {x qual : Str} {st : Stmt} {f : Addr} {fd : FuncData} {kws : List (Str × V)} (Fn : FunD K x qual (defArgs st) (defBody st) (defScope st) [] kws f fd) : Fun K x qual st f fd := by
  obtain ⟨oc, od, dV, kV, doc, pm, an, cdv, ct, osl, e, lk, hcd, hD, hK⟩ := Fn.ex
  rcases hD with ⟨_, rfl⟩ | ⟨z, _⟩
  · exact ⟨⟨oc, od, kV, doc, pm, an, cdv, ct, osl, e, lk, hcd⟩, Fn.kp⟩
  · exact absurd rfl z
theorem kb_kw {K : PySem.W.Frag} {x qual : Str} {st : Stmt} {f : Addr} {fd : FuncData} {ps : List Str} {kws : List (Str × V)} (Fn : FunD K x qual (defArgs st) (defBody st) (defScope st) [] kws f fd) (n : Nat) (ks : List Str) (ix : List (Nat ⊕ Nat)) (ms : List (Str × D)) (hk : kws ≠ [])
    (hms : ∀ q ∈ ms, (q.1, flatOf q.2) ∈ kws) (fl : flatAll (ms.map (·.2)) = true) (ok : okIx (n + ks.length) ms.length ix = true)
    (h : ∀ (D : Addr) (doc pm : Value) (an : Option Addr) (cdv ct : Value) (us ws mv : List Value), us.length = n → ws.length = ks.length → mv.length = ms.length →
      KwChain D ((ms.map (·.1)).zip mv) (bindArgs (PySem.W.fnOf x qual (defArgs st) (defBody st) (defScope st) .none (.ref D) doc pm an cdv ct) ⟨us, ks.zip ws⟩) (ps.zip (pick (us ++ ws) mv ix))) : KBG K fd ps n ks ix (ms.map (·.2)) where
  ok := by rw [List.length_map]; exact ok
  fl := fl
  to := fun s us ws X l1 l2 => by
    obtain ⟨oc, od, dV, kV, doc, pm, an, cdv, ct, osl, rfl, lk, hcd, hD, hK⟩ := Fn.ex
    rcases hD with ⟨_, rfl⟩ | ⟨z, _⟩
    · rcases hK with e | ⟨D, rfl, hq⟩
      · exact absurd e hk
      · obtain ⟨mv, hl, rk, hks⟩ := kwd_vals (ms := ms.map fun q => (q.1, flatOf q.2)) fun q hm => by
          obtain ⟨q', h1, rfl⟩ := List.mem_map.mp hm
          exact hq _ (hms q' h1)
        rw [List.map_map] at rk hks
        rw [List.length_map] at hl
        refine ⟨mv, by rw [List.map_map]; exact rk, BindsTo.of_looks fun M => KwChain.looks X hks (h D doc pm an cdv ct us ws mv l1 l2 hl)⟩
    · exact absurd rfl z
section
variable {X : Cx} {W : WX} {bv : Nat → Option V} {pos p : Pos} {a : Expr} {es : List Expr} {fa : EM D} {fr frk : EM (List AR)} {kws : List Keyword} {nm : Option Str} {kpos : Pos} {x : Str} {k n : Nat} {f : Addr} {fd : FuncData} {ps ks : List Str} {sp : Sp} {E : XK} {ix : List (Nat ⊕ Nat)} {ds : List D} {t tk : TA}
abbrev DK (X : Cx) (W : WX) (bv : Nat → Option V) (kws : List Keyword) (f : EM (List AR)) : Prop := PK X kws (tR X.K W bv f)
theorem pk_imp {kws : List Keyword} {t t' : TA} (h : PK X kws t) (w : ∀ σ H Q, t' σ H Q → t σ H Q) : PK X kws t' := ⟨fun pos pins s σ H Q I q => h.run pos pins s σ H Q I (w σ H Q q)⟩
theorem dk_nil : DK X W bv [] arN := pk_imp pk_nil fun σ H Q ⟨e, F, fp, S, q⟩ => AtG.here (r := rAR X.K σ) S q trivial
theorem dk_cons (h : DE X W bv a fa) (hr : DK X W bv kws fr) : DK X W bv (⟨nm, a, kpos⟩ :: kws) (arD fa fr) :=
  pk_imp (pk_cons h hr) fun σ H Q t => by
    refine tG.mono (tG.bnd (r := rD X.K) t) fun x H1 ⟨d, e1, F1, fp1, S1, r1, q1⟩ => ?_
    refine tG.mono (AtG.bnd' (r := rAR X.K σ) S1 q1) fun xs H2 ⟨as, e2, F2, fp2, s2, S2, r2, q2⟩ => ?_
    exact AtG.here (r := rAR X.K σ) S2 q2 ⟨Rp.mono s2 r1, r2⟩
/-- positional and keyword arguments in the parameters' order -/
def kwA (n m : Nat) (ix : List (Nat ⊕ Nat)) (ds : List D) (fr frk : EM (List AR)) : EM (List AR) := bnd fr fun as => bnd frk fun bs => lif (if as.length = n ∧ bs.length = m then some (pick (as ++ bs) (ds.map .d) ix) else none)
theorem bnd_assoc {α β γ : Type} {f : EM α} {g : α → EM β} {h : β → EM γ} : bnd (bnd f g) h = bnd f fun a => bnd (g a) h := by
  funext e
  unfold bnd
  cases f e <;> rfl
theorem run_G {pins : List (Addr × Obj)} {σ : L2.St} {H : Hp} {s : Shared} {Q : VK} {us ws : List Value} {vs zs : List V} (G : FnG X.prog X.w X.K X.mg X.base k f fd ps sp) (hg : X.A.guards = some []) (hr : Room k X.A) (hb : KBG X.K fd ps n ks ix ds) (I : Inv X pins σ H s) (r : Vals vs us) (rz : Vals zs ws) (l1 : vs.length = n) (l2 : zs.length = ks.length)
    (h : sp (pick (vs ++ zs) (ds.map flatOf) ix) H Q E) : wpAny (model X.prog X.w) X.A (call (.ref f) us (ks.zip ws)) (EP X pins σ Q) X.xe s := by
  obtain ⟨dus, rd, bi⟩ := hb.to s us ws I.kIn (r.length.symm.trans l1) (rz.length.symm.trans l2)
  refine wpAny_call (goG (E := E) G hg hr I bi (vals_two (((two_vals r).append (two_vals rz)).pick (two_vals rd) ?_)) h)
  rw [List.length_append, l1, l2, List.length_map]
  exact hb.ok
theorem pe_callKG (G : FnG X.prog X.w X.K X.mg X.base k f fd ps sp) (hgd : X.A.guards = some []) (hr : Room k X.A) (hm : X.mg x = some (.ref f)) (hk : PySem.W.keepIn X.K (.ref f) = true) (hb : KBG X.K fd ps n ks ix ds)
    (ha : PA X (a :: es) t) (hkw : PK X kws tk) (hg : Gl X x) (hdb : (x == ("__debug__" : Str)) = false) (hall : (backToKw pos (keywordEach kws X.env)).all (·.1.isSome) = true) (hks : (backToKw pos (keywordEach kws X.env)).filterMap (·.1) = ks)
    (he : starEach (a :: es) X.env = (false, eval a X.env) :: starEach es X.env) (hpl : ((backTo pos (starEach (a :: es) X.env)).any (·.1) || (backToKw pos (keywordEach kws X.env)).any (·.1.isNone)) = false) :
    PE X (.Call (.Name x p) (a :: es) kws pos) (fun σ H Q => t σ H fun vs H1 => tk σ H1 fun zs H2 => vs.length = n ∧ zs.length = ks.length ∧ sp (pick (vs ++ zs) (ds.map flatOf) ix) H2 Q E) := by
  refine ⟨fun pins s σ H Q I h => wpAny_Call_Name_kw (ld_glob I hg hm ?_ hdb)⟩
  refine PySem.W.callWith_KW (h₀ := X.base) I.ok.mod.kin hk hall (thn (ha.run pos pins s σ H _ I h) fun us s1 ⟨vs, H1, I1, r, q⟩ => ?_) hpl he
  refine thn (hkw.run pos pins s1 σ H1 _ I1 q) fun ws s2 ⟨zs, H2, I2, rz, l1, l2, q2⟩ => ⟨I2.kIn, ?_⟩
  rw [hks]
  exact run_G G hgd hr hb I2 r rz l1 l2 q2
theorem pe_callKG0 (G : FnG X.prog X.w X.K X.mg X.base k f fd ps sp) (hgd : X.A.guards = some []) (hr : Room k X.A) (hm : X.mg x = some (.ref f)) (hk : PySem.W.keepIn X.K (.ref f) = true) (hb : KBG X.K fd ps 0 ks ix ds)
    (hkw : PK X kws tk) (hg : Gl X x) (hdb : (x == ("__debug__" : Str)) = false) (hall : (backToKw pos (keywordEach kws X.env)).all (·.1.isSome) = true) (hks : (backToKw pos (keywordEach kws X.env)).filterMap (·.1) = ks)
    (hpl : ((backTo pos (starEach [] X.env)).any (·.1) || (backToKw pos (keywordEach kws X.env)).any (·.1.isNone)) = false) :
    PE X (.Call (.Name x p) [] kws pos) (fun σ H Q => tk σ H fun zs H2 => zs.length = ks.length ∧ sp (pick ([] ++ zs) (ds.map flatOf) ix) H2 Q E) := by
  refine ⟨fun pins s σ H Q I h => wpAny_Call_Name_kw (ld_glob I hg hm ?_ hdb)⟩
  refine PySem.W.callWith_KW0 (h₀ := X.base) I.ok.mod.kin hk hall (thn (hkw.run pos pins s σ H _ I h) fun ws s2 ⟨zs, H2, I2, rz, l2, q2⟩ => ⟨I2.kIn, ?_⟩) hpl
  rw [hks]
  exact run_G G hgd hr hb I2 .nil rz rfl l2 q2
theorem callK_of {K : PySem.W.Frag} {Fs : List M → FOut} {σ : L2.St} {H : Hp} {Q : VK} {m : Nat} (fl : flatAll ds = true) (ok : okIx (n + m) ds.length ix = true) (t : tM K W bv (callM Fs (kwA n m ix ds fr frk)) σ H Q) :
    tR K W bv fr σ H fun vs H1 => tR K W bv frk σ H1 fun zs H2 => vs.length = n ∧ zs.length = m ∧ spF K Fs (pick (vs ++ zs) (ds.map flatOf) ix) H2 Q E0 := by
  unfold callM kwA at t
  rw [bnd_assoc] at t
  refine tG.mono (tG.bnd (r := rAR K σ) t) fun vs H1 ⟨as, e1, F1, fp1, S1, r1, q1⟩ => ?_
  rw [bnd_assoc] at q1
  refine tG.mono (AtG.bnd' (r := rAR K σ) S1 q1) fun zs H2 ⟨bs, e2, F2, fp2, s2, S2, r2, q2⟩ => ?_
  have t1 := two_ar (rAR_mono s2 r1)
  have t2 := two_ar r2
  by_cases hz : as.length = n ∧ bs.length = m
  · rw [if_pos hz] at q2
    refine ⟨t1.length.trans hz.1, t2.length.trans hz.2, ?_⟩
    have r3 : rAR K σ F2 (pick (vs ++ zs) (ds.map flatOf) ix) (pick (as ++ bs) (ds.map .d) ix) := ar_two ((t1.append t2).pick (two_flat fl) (by rw [List.length_append, t1.length, t2.length, hz.1, hz.2, List.length_map]; exact ok))
    exact call_at S2 r3 q2
  · rw [if_neg hz] at q2
    exact q2.elim
theorem dm_callK {Fs : List M → FOut} (G : FnG X.prog X.w X.K X.mg X.base k f fd ps (spF X.K Fs)) (hgd : X.A.guards = some []) (hr : Room k X.A) (hm : X.mg x = some (.ref f)) (hk : PySem.W.keepIn X.K (.ref f) = true) (hb : KBG X.K fd ps n ks ix ds)
    (ha : DR X W bv (a :: es) fr) (hkw : DK X W bv kws frk) (hg : Gl X x := by rfl) (hdb : (x == ("__debug__" : Str)) = false := by decide) (hall : (backToKw pos (keywordEach kws X.env)).all (·.1.isSome) = true := by rfl) (hks : (backToKw pos (keywordEach kws X.env)).filterMap (·.1) = ks := by rfl)
    (he : starEach (a :: es) X.env = (false, eval a X.env) :: starEach es X.env := by rfl) (hpl : ((backTo pos (starEach (a :: es) X.env)).any (·.1) || (backToKw pos (keywordEach kws X.env)).any (·.1.isNone)) = false := by rfl) :
    DM X W bv (.Call (.Name x p) (a :: es) kws pos) (callM Fs (kwA n ks.length ix ds fr frk)) :=
  pe_imp (pe_callKG (E := E0) G hgd hr hm hk hb ha hkw hg hdb hall hks he hpl) fun σ H Q t => callK_of hb.fl hb.ok t
theorem de_callK {Fs : List M → FOut} (G : FnG X.prog X.w X.K X.mg X.base k f fd ps (spF X.K Fs)) (hgd : X.A.guards = some []) (hr : Room k X.A) (hm : X.mg x = some (.ref f)) (hk : PySem.W.keepIn X.K (.ref f) = true) (hb : KBG X.K fd ps n ks ix ds)
    (ha : DR X W bv (a :: es) fr) (hkw : DK X W bv kws frk) (hg : Gl X x := by rfl) (hdb : (x == ("__debug__" : Str)) = false := by decide) (hall : (backToKw pos (keywordEach kws X.env)).all (·.1.isSome) = true := by rfl) (hks : (backToKw pos (keywordEach kws X.env)).filterMap (·.1) = ks := by rfl)
    (he : starEach (a :: es) X.env = (false, eval a X.env) :: starEach es X.env := by rfl) (hpl : ((backTo pos (starEach (a :: es) X.env)).any (·.1) || (backToKw pos (keywordEach kws X.env)).any (·.1.isNone)) = false := by rfl) :
    DE X W bv (.Call (.Name x p) (a :: es) kws pos) (callD Fs (kwA n ks.length ix ds fr frk)) := de_ofM (dm_callK G hgd hr hm hk hb ha hkw hg hdb hall hks he hpl)
theorem dm_callK0 {Fs : List M → FOut} (G : FnG X.prog X.w X.K X.mg X.base k f fd ps (spF X.K Fs)) (hgd : X.A.guards = some []) (hr : Room k X.A) (hm : X.mg x = some (.ref f)) (hk : PySem.W.keepIn X.K (.ref f) = true) (hb : KBG X.K fd ps 0 ks ix ds)
    (hkw : DK X W bv kws frk) (hg : Gl X x := by rfl) (hdb : (x == ("__debug__" : Str)) = false := by decide) (hall : (backToKw pos (keywordEach kws X.env)).all (·.1.isSome) = true := by rfl) (hks : (backToKw pos (keywordEach kws X.env)).filterMap (·.1) = ks := by rfl)
    (hpl : ((backTo pos (starEach [] X.env)).any (·.1) || (backToKw pos (keywordEach kws X.env)).any (·.1.isNone)) = false := by rfl) :
    DM X W bv (.Call (.Name x p) [] kws pos) (callM Fs (kwA 0 ks.length ix ds arN frk)) :=
  pe_imp (pe_callKG0 (E := E0) G hgd hr hm hk hb hkw hg hdb hall hks hpl) fun σ H Q t => by
    obtain ⟨e, F, fp, S, q⟩ := callK_of hb.fl hb.ok t
    exact tG.mono (AtG.here (r := rAR X.K σ) (x := []) S q trivial) fun zs H2 h => h.2
theorem de_callK0 {Fs : List M → FOut} (G : FnG X.prog X.w X.K X.mg X.base k f fd ps (spF X.K Fs)) (hgd : X.A.guards = some []) (hr : Room k X.A) (hm : X.mg x = some (.ref f)) (hk : PySem.W.keepIn X.K (.ref f) = true) (hb : KBG X.K fd ps 0 ks ix ds)
    (hkw : DK X W bv kws frk) (hg : Gl X x := by rfl) (hdb : (x == ("__debug__" : Str)) = false := by decide) (hall : (backToKw pos (keywordEach kws X.env)).all (·.1.isSome) = true := by rfl) (hks : (backToKw pos (keywordEach kws X.env)).filterMap (·.1) = ks := by rfl)
    (hpl : ((backTo pos (starEach [] X.env)).any (·.1) || (backToKw pos (keywordEach kws X.env)).any (·.1.isNone)) = false := by rfl) :
    DE X W bv (.Call (.Name x p) [] kws pos) (callD Fs (kwA 0 ks.length ix ds arN frk)) := de_ofM (dm_callK0 G hgd hr hm hk hb hkw hg hdb hall hks hpl)
end
end FD

/-! FD: d.get(k, x), o[k] = v, in, of what is owned or data. -/
namespace FD
open PySem L2
section
variable {X : Cx} {W : WX} {bv : Nat → Option V} {pos p px apos cpos : Pos} {a b c : Expr} {es : List Expr} {fa fb fc : EM D} {fs : EM (List D)} {x : Str}
/-! ### d.get(k, x) -/
theorem dx_get2 {pins : List (Addr × Obj)} {σ : L2.St} {H : Hp} {s : Shared} {a : Addr} {y d : V} {u r : Value} {o : Option V} {A : Around} {E : Value → Shared → Prop} {Q : Value → Shared → Prop} (hu : A.units + 1 < cLine) (I : Inv X pins σ H s) (g : DGetX H a y o) (ry : RelV y u) (rd : RelV d r)
    (h : ∀ w' s', Inv X pins σ H s' → RelV (o.getD d) w' → Q w' s') : wpAny (model X.prog X.w) A (call (.builtin "dict.get") [.ref a, u, r]) Q E s := by
  rcases g with g | ⟨rfl, e, b, k, rfl, eb⟩ | ⟨rfl, e, k, rfl⟩
  · exact d_get2 hu I g ry rd h
  · cases (show u = Value.ref b from ry)
    obtain ⟨hd, dd⟩ := emptyH I e
    exact call_meetsIn PySem.F.slot_dict_get dd.typeIs PySem.F.entry_dict_get (PySem.F.args_dict_get_3 _ _ _) (meetsH_dict_get_default (tupleKind (mixKind X.prog X.w)) a b hd r) ⟨tupleKind_room_in1 hu, k, [], key_of I.hok eb, dd, h _ _ (I.tok _) rd⟩
  · obtain ⟨hd, dd⟩ := emptyK I e
    exact call_meetsIn PySem.F.slot_dict_get dd.typeIs PySem.F.entry_dict_get (PySem.F.args_dict_get_3 _ _ _) (meets_dict_get_default (mixKind X.prog X.w) a (kV_is ry) hd r) ⟨_, dd.mapOf, h _ _ (I.tok _) rd⟩
def rGet2 : V → List V → Hp → VK → Prop := fun x xs H Q => ∃ a y z o, x = .ref a ∧ xs = [y, z] ∧ DGetX H a y o ∧ Q (o.getD z) H
/-- o.get(e, f) of what is a dict -/
theorem pe_get2 {td : TE} {ta : TA} {k : Nat} (hr : Room k X.A) (ho : PE X a td) (ha : PA X [b, c] ta) (m : M2 X a "get" apos b c cpos) (hs : starEach [b, c] X.env = (false, eval b X.env) :: starEach [c] X.env := by rfl) :
    PE X (.Call (.Attribute a "get" apos) [b, c] [] cpos) (fun σ H Q => td σ H fun x H1 => ∃ d, x = .ref d ∧ IsD H1 d ∧ ta σ H1 fun xs H2 => rGet2 x xs H2 Q) := by
  have hu : X.A.units + 1 < cLine := by have := hr.un; omega
  refine ⟨fun pins s σ H Q I h => ?_⟩
  refine wpAny_Call_method m.base m.few m.line PySem.F.plainAttrs_dict PySem.F.slot_dict_get PySem.F.type_dict_get (thn (ho.run pins s σ H _ I h) fun u s1 ⟨x, H1, I1, rx, d, ex, hd, q1⟩ => ?_)
  subst ex
  cases (show u = Value.ref d from rx)
  obtain ⟨t1, t2, _⟩ := isD_at I1 hd
  refine ⟨t1, t2, ?_⟩
  have hA := ha.run cpos pins s1 σ H1 _ I1 q1
  rw [m.trees] at hA ⊢
  refine Calls.callWith_builtin rfl (Calls.evalArgs_plain (thn hA fun us s2 hq => ?_))
  obtain ⟨xs, H2, I2, rs, a', y, z, o, e1, e2, g, q2⟩ := hq
  cases e1
  subst e2
  cases rs with
  | cons r1 rs =>
    cases rs with
    | cons r2 rs =>
      cases rs
      exact dx_get2 hu I2 g r1 r2 fun w' s3 I3 rw' => ⟨_, H2, I3, rw', q2⟩
def isDict : D → Bool
  | .dict _ => true
  | _ => false
def get2E (fa : EM D) (fs : EM (List D)) : EM D := bnd fa fun d => match d with
  | .dict kvs => bnd fs fun ys => lif (match ys with
    | [y, z] => (getDD kvs y).map fun o => o.getD z
    | _ => none)
  | _ => fun _ => .no
theorem Rp.isD {K : PySem.W.Frag} {F H : Hp} {v : V} {kvs : List (D × D)} (s : Sub F H) (r : Rp K F v (.dict kvs)) : ∃ a, v = .ref a ∧ IsD H a := by
  generalize hd : PyData.dict kvs = dd at r
  cases r with
  | dK h _ _ => exact ⟨_, rfl, .inl ⟨_, s.rd _ _ h⟩⟩
  | dT h _ _ => exact ⟨_, rfl, .inr ⟨_, s.rd _ _ h⟩⟩
  | _ => cases hd
theorem m2_of (base : attributeBase a "get" X.env (eval a X.env) = eval a X.env) (few : ((backTo cpos (starEach [b, c] X.env)).all (fun x => !x.1) && (backToKw cpos (keywordEach [] X.env)).all (fun x => x.1.isSome) && decide (([b, c] : List Expr).length + ([] : List Keyword).length + (if ([] : List Keyword).isEmpty then 0 else 1) < 30)) = true)
    (line : (apos.endLine == cpos.line) = true) (trees : backTo cpos (starEach [b, c] X.env) = [(false, eval b X.env), (false, eval c X.env)]) : M2 X a "get" apos b c cpos := ⟨base, few, line, trees⟩
theorem de_get2 {k : Nat} (hr : Room k X.A) (ho : DE X W bv a fa) (ha : DA X W bv [b, c] fs) (m : M2 X a "get" apos b c cpos) (hs : starEach [b, c] X.env = (false, eval b X.env) :: starEach [c] X.env := by rfl) : DE X W bv (.Call (.Attribute a "get" apos) [b, c] [] cpos) (get2E fa fs) :=
  pe_imp (pe_get2 hr ho ha m hs) fun σ H Q t => by
    refine tG.mono (tG.bnd (r := rD X.K) t) fun x H1 ⟨d, e1, F1, fp1, S1, r1, q1⟩ => ?_
    cases d with
    | dict kvs =>
      obtain ⟨p, rfl, hd⟩ := Rp.isD S1.sub r1
      refine ⟨p, rfl, hd, tG.mono (AtG.bnd' (r := rL X.K) S1 q1) fun xs H2 ⟨ys, e2, F2, fp2, s2, S2, r2, q2⟩ => ?_⟩
      obtain ⟨z, hz, q3⟩ := q2.lif
      split at hz
      · rename_i y zd
        obtain ⟨o, ho, rfl⟩ := Option.map_eq_some_iff.mp hz
        cases r2 with
        | cons ry r2 =>
          cases r2 with
          | cons rz r2 =>
            cases r2
            obtain ⟨p', ov, e1, g, hh⟩ := get_rp S2.sub (Rp.mono s2 r1) ry ho
            cases e1
            refine ⟨p, _, _, ov, rfl, rfl, g, ?_⟩
            rcases hh with ⟨rfl, rfl⟩ | ⟨d', w, rfl, rfl, rw'⟩
            · exact AtG.here (r := rD X.K) S2 q3 rz
            · exact AtG.here (r := rD X.K) S2 q3 rw'
      · cases hz
    | _ => exact q1.elim
/-- the same of an owned dict -/
def isDkt (i : Nat) (e : Env) : Bool := match e[i]? with
  | some (some (.dk _)) => true
  | some (some (.dt _)) => true
  | _ => false
def getM (i : Nat) (y z : D) (e : Env) : Option D := match e[i]? with
  | some (some (.dk kms)) => match kOf y with
    | some k => match lookK kms k with
      | some (.im d) => some d
      | none => some z
      | _ => none
    | none => none
  | some (some (.dt kms)) => match ksOf y with
    | some k => match lookK kms k with
      | some (.im d) => some d
      | none => some z
      | _ => none
    | none => none
  | _ => none
def pkGet (i : Nat) (fs : EM (List D)) : EM D := fun e => if isDkt i e then bnd fs (fun ys e => lif (match ys with
    | [y, z] => getM i y z e
    | _ => none) e) e else .no
theorem isDkt_at {K : PySem.W.Frag} {e : Env} {σ : L2.St} {F H : Hp} {fp : Nat → List Addr} {i : Nat} (S : SS K bv e σ F H fp) (h : isDkt i e = true) : ∃ a, σ[i]? = some (some (.ref a)) ∧ IsD H a := by
  unfold isDkt at h
  split at h
  · rename_i kms he
    obtain ⟨a, kvs, _, h1, h2, _⟩ := S.dkAt he
    exact ⟨a, h1, .inl ⟨kvs, .inl h2⟩⟩
  · rename_i kms he
    obtain ⟨a, kvs, _, h1, h2, _⟩ := S.dtAt he
    exact ⟨a, h1, .inr ⟨kvs, .inl h2⟩⟩
  · cases h
theorem getM_at {K : PySem.W.Frag} {e : Env} {σ : L2.St} {F H : Hp} {fp : Nat → List Addr} {i : Nat} {y z : V} {yd zd d : D} (S : SS K bv e σ F H fp) (ry : Rp K F y yd) (rz : Rp K F z zd) (h : getM i yd zd e = some d) :
    ∃ a o, σ[i]? = some (some (.ref a)) ∧ DGetX H a y o ∧ Rp K F (o.getD z) d := by
  unfold getM at h
  split at h
  · rename_i kms he
    obtain ⟨a, kvs, fpl, h1, h2, h3, h4, h5, h6⟩ := S.dkAt he
    split at h
    · rename_i k hk
      have ey := ry.key hk
      subst ey
      refine ⟨a, _, h1, .inl (DGet.k h2), ?_⟩
      rcases look_own (k := k) h4 h5 with ⟨e1, e2⟩ | ⟨v, m, l, e1, e2, o, _⟩
      · rw [e1] at h
        cases h
        rw [e2]
        exact rz
      · rw [e2] at h
        cases m with
        | im d' =>
          cases h
          cases o
          rw [e1]
          assumption
        | _ => cases h
    · cases h
  · rename_i kms he
    obtain ⟨a, kvs, fpl, h1, h2, h3, h4, h5, h6⟩ := S.dtAt he
    split at h
    · rename_i k hk
      obtain ⟨b, rfl, hb⟩ := ry.keyT hk
      refine ⟨a, _, h1, .inl (DGet.t h2 (S.sub.tp _ _ hb)), ?_⟩
      rcases look_own (k := k) h4 h5 with ⟨e1, e2⟩ | ⟨v, m, l, e1, e2, o, _⟩
      · rw [e1] at h
        cases h
        rw [e2]
        exact rz
      · rw [e2] at h
        cases m with
        | im d' =>
          cases h
          cases o
          rw [e1]
          assumption
        | _ => cases h
    · cases h
  · cases h
theorem de_getP (i : Nat) {k : Nat} (hr : Room k X.A) (ha : DA X W bv [b, c] fs) (m : M2 X (.Name x px) "get" apos b c cpos) (hN : X.N[i]? = some x := by rfl) (hv : Vis X.env.scope x := by first | exact Or.inl rfl | exact Or.inr (Or.inl rfl) | exact Or.inr (Or.inr rfl)) (hd : (x == ("__debug__" : Str)) = false := by decide) (hcd : (x == ("__classdict__" : Str)) = false := by decide)
    (hs : starEach [b, c] X.env = (false, eval b X.env) :: starEach [c] X.env := by rfl) : DE X W bv (.Call (.Attribute (.Name x px) "get" apos) [b, c] [] cpos) (pkGet i fs) :=
  pe_imp (pe_get2 hr (pe_var hN hv hd hcd) ha m hs) fun σ H Q ⟨e, F, fp, S, q⟩ => by
    unfold AtG pkGet at q
    by_cases hz : isDkt i e = true
    · rw [if_pos hz] at q
      obtain ⟨p, hp, hd'⟩ := isDkt_at S hz
      refine ⟨_, hp, p, rfl, hd', tG.mono (AtG.bnd' (r := rL X.K) S q) fun xs H2 ⟨ys, e2, F2, fp2, s2, S2, r2, q2⟩ => ?_⟩
      obtain ⟨z, hz, q3⟩ : ∃ d, (match ys with | [y, z] => getM i y z e2 | _ => none) = some d ∧ AtG X.K W bv (smp (rD X.K)) (ret d) e2 σ F2 H2 fp2 Q := by
        unfold AtG at q2
        dsimp only at q2
        generalize (match ys with | [y, z] => getM i y z e2 | _ => none) = oo at q2
        cases oo with
        | none => exact q2.elim
        | some d => exact ⟨d, rfl, q2⟩
      split at hz
      · rename_i y zd
        cases r2 with
        | cons ry r2 =>
          cases r2 with
          | cons rz r2 =>
            cases r2
            obtain ⟨p', o, g1, g2, g3⟩ := getM_at S2 ry rz hz
            rw [hp] at g1
            cases g1
            exact ⟨p, _, _, o, rfl, rfl, g2, AtG.here (r := rD X.K) S2 q3 g3⟩
      · cases hz
    · rw [if_neg hz] at q
      exact q.elim
/-! ### o[k] = v -/
def storeM (i : Nat) (k : D) (d : D) : EM Flow := fun e => match e[i]? with
  | some (some (.ls ms)) => match k with
    | .int k => match ixN ms.length k with
      | some j => match ms[j]? with
        | some (.im _) => .ok .nxt (e.set i (some (.ls (ms.set j (.im d)))))
        | _ => .no
      | none => .no
    | _ => .no
  | some (some (.dk kms)) => match kOf k with
    | some k => if few (kms.length + 1) && imK kms k then .ok .nxt (e.set i (some (.dk (putKK kms k (.im d))))) else .no
    | none => .no
  | some (some (.dt kms)) => match ksOf k with
    | some k => if few (kms.length + 1) && imK kms k then .ok .nxt (e.set i (some (.dt (putKK kms k (.im d))))) else .no
    | none => .no
  | _ => .no
def storeS (i : Nat) (fk fv : EM D) : EM Flow := bnd fv fun d => chk i (bnd fk fun k => storeM i k d)
def rSetA : TSet := fun o i v H Q => rSetL o i v H Q ∨ rSetD o i v H Q
theorem set_any {k : Nat} (hr : Room k X.A) : PSet X rSetA := by
  have hu : X.A.units + 1 < cLine := by have := hr.un; omega
  intro pins s σ H o i v ov iv u Q I ro ri rv h
  rcases h with h | h
  · exact set_list pins s σ H o i v ov iv u Q I ro ri rv h
  · exact set_dict hu pins s σ H o i v ov iv u Q I ro ri rv h
theorem ds_store (i : Nat) {tp : Pos} {k : Nat} (hr : Room k X.A) (hk : DE X W bv b fb) (hvl : DE X W bv a fa) (hN : X.N[i]? = some x := by rfl) (hv : Vis X.env.scope x := by first | exact Or.inl rfl | exact Or.inr (Or.inl rfl) | exact Or.inr (Or.inr rfl)) (hd : (x == ("__debug__" : Str)) = false := by decide) (hcd : (x == ("__classdict__" : Str)) = false := by decide)
    (ha : ∀ v, assign (.Subscript (.Name x px) b tp) X.env v = (do
      let ov ← holding [v] (eval (.Name x px) X.env)
      let iv ← holding [v, ov] (eval b X.env)
      standAt tp
      holding [v, ov, iv] (setItem ov iv v)
      release [v, ov, iv] []) := by intro _; rfl)
    (hs : swapsWithSole [.Subscript (.Name x px) b tp] a pos.line X.env = pure false := by rfl) (hw : swappedStores [.Subscript (.Name x px) b tp] a X.env = pure none := by rfl)
    (h1 : (assignEach [.Subscript (.Name x px) b tp] X.env).map (·.2) = [assign (.Subscript (.Name x px) b tp) X.env] := by rfl) :
    DS X W bv (.Assign [.Subscript (.Name x px) b tp] a pos) (storeS i fb fa) :=
  ps_imp (ps_asg hvl (pg_sub (pe_var hN hv hd hcd) hk (set_any hr) ha) hs hw h1) fun D σ H ⟨e, F, fp, S, q⟩ => by
    refine tG.mono (AtS.bnd' (r := rD X.K) S q) fun v H1 ⟨d, e1, F1, fp1, _, _, S1, r1, q1⟩ => ?_
    obtain ⟨w, hw, _⟩ := chk_S (⟨e1, F1, fp1, S1, q1⟩ : tS X.K W bv _ D σ H1)
    refine ⟨w, hw, ?_⟩
    have q2 : AtS X.K W bv (bnd fb fun k => storeM i k d) e1 σ F1 H1 fp1 D := by
      unfold AtS chk at q1
      cases hh : has i e1 with
      | true => rw [hh] at q1; exact q1
      | false => rw [hh] at q1; exact q1.elim
    refine tG.mono (AtS.bnd' (r := rD X.K) S1 q2) fun y H2 ⟨kd, e2, F2, fp2, s2, _, S2, r2, q3⟩ => ?_
    unfold AtS storeM at q3
    split at q3
    · rename_i ms he
      split at q3
      · rename_i kk
        cases r2
        split at q3
        · rename_i j hj
          split at q3
          · rename_i d0 hd0
            obtain ⟨a1, vs1, fpl1, g1, g2, g3, g4, g5⟩ := S2.lsAt he
            rw [hw] at g1
            cases g1
            obtain ⟨S3, s3⟩ := S2.upH (m := .ls (ms.set j (.im d))) (List.getElem?_eq_some_iff.mp he).1 hw g3 (.ls upd_same ((g4.set (Rp.mono s2 r1) hd0).other g5))
            exact .inl ⟨a1, vs1, kk, j, rfl, rfl, g2, by rw [g4.length]; exact hj, q3 σ F2 _ fp2 s3 S3⟩
          · exact q3.elim
        · exact q3.elim
      · exact q3.elim
    · rename_i kms he
      split at q3
      · rename_i kk hkk
        split at q3
        · rename_i hz
          rw [Bool.and_eq_true] at hz
          have ey := Rp.key r2 hkk
          subst ey
          obtain ⟨a1, kvs, fpl1, g1, g2, g3, g4, g5, g6⟩ := S2.dkAt he
          rw [hw] at g1
          cases g1
          obtain ⟨p1, p2⟩ := put_own (Rp.mono s2 r1) g4 g5 hz.2
          obtain ⟨S3, s3⟩ := S2.upH (m := .dk (putKK kms kk (.im d))) (List.getElem?_eq_some_iff.mp he).1 hw g3 (.dk upd_same p1 (p2.other g6))
          have hl : kvs.length = kms.length := by simpa using congrArg List.length g4
          exact .inr ⟨a1, _, rfl, DPut.k g2 (by have := few_le hz.1; omega), q3 σ F2 _ fp2 s3 S3⟩
        · exact q3.elim
      · exact q3.elim
    · rename_i kms he
      split at q3
      · rename_i kk hkk
        split at q3
        · rename_i hz
          rw [Bool.and_eq_true] at hz
          obtain ⟨kb, rfl, hkb⟩ := Rp.keyT r2 hkk
          obtain ⟨a1, kvs, fpl1, g1, g2, g3, g4, g5, g6⟩ := S2.dtAt he
          rw [hw] at g1
          cases g1
          obtain ⟨p1, p2⟩ := put_own (Rp.mono s2 r1) g4 g5 hz.2
          obtain ⟨S3, s3⟩ := S2.upH (m := .dt (putKK kms kk (.im d))) (List.getElem?_eq_some_iff.mp he).1 hw g3 (.dt upd_same p1 (p2.other g6))
          have hl : kvs.length = kms.length := by simpa using congrArg List.length g4
          exact .inr ⟨a1, _, rfl, DPut.t g2 (S2.sub.tp _ _ hkb) (by have := few_le hz.1; omega), q3 σ F2 _ fp2 s3 S3⟩
        · exact q3.elim
      · exact q3.elim
    · exact q3.elim
/-! ### in, of what is owned -/
def inPD (d1 d2 : D) : Option D := match d2 with
  | .dict _ => inDD false d1 d2
  | _ => inLD d1 d2
def ninPD (d1 d2 : D) : Option D := match d2 with
  | .dict _ => inDD true d1 d2
  | _ => ninLD d1 d2
theorem opp_cases {K : PySem.W.Frag} {r r' : R2} {g g' h : D → D → Option D} (h1 : OpP K r g) (h2 : OpP K r' g') (hh : ∀ x y, h x y = g x y ∨ h x y = g' x y) : OpP K (fun x y H Q => r x y H Q ∨ r' x y H Q) h := by
  intro F H x y d1 d2 d Q s r1 r2 q
  rcases hh d1 d2 with e1 | e1
  · rw [e1] at q
    obtain ⟨f, k⟩ := h1 F H x y d1 d2 d Q s r1 r2 q
    exact ⟨f, fun z => .inl (k z)⟩
  · rw [e1] at q
    obtain ⟨f, k⟩ := h2 F H x y d1 d2 d Q s r1 r2 q
    exact ⟨f, fun z => .inr (k z)⟩
theorem de_inPA (i : Nat) {k : Nat} (hr : Room k X.A) (ha : DE X W bv a fa) (hN : X.N[i]? = some x := by rfl) (hv : Vis X.env.scope x := by first | exact Or.inl rfl | exact Or.inr (Or.inl rfl) | exact Or.inr (Or.inr rfl)) (hd : (x == ("__debug__" : Str)) = false := by decide) (hcd : (x == ("__classdict__" : Str)) = false := by decide)
    (hm : behindInMarks .In (.Name x px) = false := by first | exact nomark _ | rfl) : DE X W bv (.Compare a [.In] [.Name x px] pos) (pkR i inPD fa) :=
  pe_imp (pe_cmpR (OpR.or (or_in hr) (or_din hr false)) ha (pe_var hN hv hd hcd) hm) fun σ H Q t => pkR_of (opp_cases inL_P in_dP fun x y => by unfold inPD; split <;> first | exact .inr rfl | exact .inl rfl) t
theorem de_ninPA (i : Nat) {k : Nat} (hr : Room k X.A) (ha : DE X W bv a fa) (hN : X.N[i]? = some x := by rfl) (hv : Vis X.env.scope x := by first | exact Or.inl rfl | exact Or.inr (Or.inl rfl) | exact Or.inr (Or.inr rfl)) (hd : (x == ("__debug__" : Str)) = false := by decide) (hcd : (x == ("__classdict__" : Str)) = false := by decide)
    (hm : behindInMarks .NotIn (.Name x px) = false := by first | exact nomark _ | rfl) : DE X W bv (.Compare a [.NotIn] [.Name x px] pos) (pkR i ninPD fa) :=
  pe_imp (pe_cmpR (OpR.or (or_nin hr) (or_din hr true)) ha (pe_var hN hv hd hcd) hm) fun σ H Q t => pkR_of (opp_cases ninL_P in_dP fun x y => by unfold ninPD; split <;> first | exact .inr rfl | exact .inl rfl) t
end
end FD

/-! FD: tests on what is owned; what a generator's terms stand on: names of the module, its defs. -/
namespace FD
open PySem L2
section
variable {X : Cx} {W : WX} {bv : Nat → Option V} {pos p px apos cpos : Pos} {a b c : Expr} {es : List Expr} {fa fb fc : EM D} {fs : EM (List D)} {x : Str}
theorem dt_eqP (i : Nat) {k : Nat} (hr : Room k X.A) (hb : DE X W bv b fb) (hN : X.N[i]? = some x := by rfl) (hv : Vis X.env.scope x := by first | exact Or.inl rfl | exact Or.inr (Or.inl rfl) | exact Or.inr (Or.inr rfl)) (hd : (x == ("__debug__" : Str)) = false := by decide) (hcd : (x == ("__classdict__" : Str)) = false := by decide) :
    DT X W bv (.Compare (.Name x px) [.Eq] [b] pos) (tst (pkL i eqD fb)) :=
  pt_imp (pt_cmpR (OpR.or op_eq (op_eqD hr.units)) (pe_var hN hv hd hcd) hb (by first | exact nomark _ | rfl)) fun σ H Q t => pkL_of op_eqP (tst_of t)
theorem dt_neP (i : Nat) {k : Nat} (hr : Room k X.A) (hb : DE X W bv b fb) (hN : X.N[i]? = some x := by rfl) (hv : Vis X.env.scope x := by first | exact Or.inl rfl | exact Or.inr (Or.inl rfl) | exact Or.inr (Or.inr rfl)) (hd : (x == ("__debug__" : Str)) = false := by decide) (hcd : (x == ("__classdict__" : Str)) = false := by decide) :
    DT X W bv (.Compare (.Name x px) [.NotEq] [b] pos) (tst (pkL i neD fb)) :=
  pt_imp (pt_cmpR (OpR.or op_ne (op_neD hr.units)) (pe_var hN hv hd hcd) hb (by first | exact nomark _ | rfl)) fun σ H Q t => pkL_of op_neP (tst_of t)
theorem dt_inPA (i : Nat) {k : Nat} (hr : Room k X.A) (ha : DE X W bv a fa) (hN : X.N[i]? = some x := by rfl) (hv : Vis X.env.scope x := by first | exact Or.inl rfl | exact Or.inr (Or.inl rfl) | exact Or.inr (Or.inr rfl)) (hd : (x == ("__debug__" : Str)) = false := by decide) (hcd : (x == ("__classdict__" : Str)) = false := by decide)
    (hm : behindInMarks .In (.Name x px) = false := by first | exact nomark _ | rfl) : DT X W bv (.Compare a [.In] [.Name x px] pos) (tst (pkR i inPD fa)) :=
  pt_imp (pt_cmpR (OpR.or (or_in hr) (or_din hr false)) ha (pe_var hN hv hd hcd) hm) fun σ H Q t => pkR_of (opp_cases inL_P in_dP fun x y => by unfold inPD; split <;> first | exact .inr rfl | exact .inl rfl) (tst_of t)
theorem dt_ninPA (i : Nat) {k : Nat} (hr : Room k X.A) (ha : DE X W bv a fa) (hN : X.N[i]? = some x := by rfl) (hv : Vis X.env.scope x := by first | exact Or.inl rfl | exact Or.inr (Or.inl rfl) | exact Or.inr (Or.inr rfl)) (hd : (x == ("__debug__" : Str)) = false := by decide) (hcd : (x == ("__classdict__" : Str)) = false := by decide)
    (hm : behindInMarks .NotIn (.Name x px) = false := by first | exact nomark _ | rfl) : DT X W bv (.Compare a [.NotIn] [.Name x px] pos) (tst (pkR i ninPD fa)) :=
  pt_imp (pt_cmpR (OpR.or (or_nin hr) (or_din hr true)) ha (pe_var hN hv hd hcd) hm) fun σ H Q t => pkR_of (opp_cases ninL_P in_dP fun x y => by unfold ninPD; split <;> first | exact .inr rfl | exact .inl rfl) (tst_of t)
/-! ### names of the module -/
def Con (mg : Str → Option Value) (x : Str) (d : D) : Prop := flatD d = true ∧ ∃ u, mg x = some u ∧ RelV (flatOf d) u
theorem de_con {d : D} (h : Con X.mg x d) (hg : Gl X x := by rfl) (hd : (x == ("__debug__" : Str)) = false := by decide) : DE X W bv (.Name x pos) (ret d) := by
  obtain ⟨f, u, hm, r⟩ := h
  exact de_glob f hm r hg hd
end
section
variable (P : Program) (w : World) (K : PySem.W.Frag) (mg : Str → Option Value) (base : Heap)
/-- the name x is a def that does what Fs says, called by place -/
def Has (k : Nat) (x : Str) (ps : List Str) (Fs : List M → FOut) : Prop := ∃ f fd, FnG P w K mg base k f fd ps (spF K Fs) ∧ mg x = some (.ref f) ∧ PySem.W.keepIn K (.ref f) = true ∧ Binds K fd ps []
/-- the same, called with n values by place and the keywords ks -/
def HasK (k : Nat) (x : Str) (ps : List Str) (Fs : List M → FOut) (n : Nat) (ks : List Str) (ix : List (Nat ⊕ Nat)) (ds : List D) : Prop := ∃ f fd, FnG P w K mg base k f fd ps (spF K Fs) ∧ mg x = some (.ref f) ∧ PySem.W.keepIn K (.ref f) = true ∧ KBG K fd ps n ks ix ds
def FunAt (x : Str) (st : Stmt) : Prop := ∃ f fd, Fun K x x st f fd ∧ mg x = some (.ref f)
def FunDAt (x : Str) (st : Stmt) (kws : List (Str × V)) : Prop := ∃ f fd, FunD K x x (defArgs st) (defBody st) (defScope st) [] kws f fd ∧ mg x = some (.ref f)
end
section
variable {X : Cx} {W : WX} {bv : Nat → Option V} {pos p : Pos} {a : Expr} {es : List Expr} {fr frk : EM (List AR)} {kws : List Keyword} {x : Str} {k n m : Nat} {ps ks : List Str} {Fs : List M → FOut} {ix : List (Nat ⊕ Nat)} {ds : List D}
theorem dm_callH (h : Has X.prog X.w X.K X.mg X.base k x ps Fs) (hgd : X.A.guards = some []) (hr : Room k X.A) (ha : DR X W bv (a :: es) fr) (hg : Gl X x := by rfl) (hdb : (x == ("__debug__" : Str)) = false := by decide) (he : starEach (a :: es) X.env = (false, eval a X.env) :: starEach es X.env := by rfl) (hpl : (backTo pos (starEach es X.env)).any (·.1) = false := by rfl) :
    DM X W bv (.Call (.Name x p) (a :: es) [] pos) (callM Fs fr) := by
  obtain ⟨f, fd, G, hm, hk, hb⟩ := h
  exact dm_call G hgd hr hm hk hb ha hg hdb he hpl
theorem de_callH (h : Has X.prog X.w X.K X.mg X.base k x ps Fs) (hgd : X.A.guards = some []) (hr : Room k X.A) (ha : DR X W bv (a :: es) fr) (hg : Gl X x := by rfl) (hdb : (x == ("__debug__" : Str)) = false := by decide) (he : starEach (a :: es) X.env = (false, eval a X.env) :: starEach es X.env := by rfl) (hpl : (backTo pos (starEach es X.env)).any (·.1) = false := by rfl) :
    DE X W bv (.Call (.Name x p) (a :: es) [] pos) (callD Fs fr) := by
  obtain ⟨f, fd, G, hm, hk, hb⟩ := h
  exact de_call G hgd hr hm hk hb ha hg hdb he hpl
theorem de_callH0 (h : Has X.prog X.w X.K X.mg X.base k x ps Fs) (hgd : X.A.guards = some []) (hr : Room k X.A) (hg : Gl X x := by rfl) (hdb : (x == ("__debug__" : Str)) = false := by decide) : DE X W bv (.Call (.Name x p) [] [] pos) (callD Fs arN) := by
  obtain ⟨f, fd, G, hm, hk, hb⟩ := h
  exact de_call0 G hgd hr hm hk hb hg hdb
theorem de_callHK (h : HasK X.prog X.w X.K X.mg X.base k x ps Fs n ks ix ds) (hgd : X.A.guards = some []) (hr : Room k X.A) (ha : DR X W bv (a :: es) fr) (hkw : DK X W bv kws frk) (hg : Gl X x := by rfl) (hdb : (x == ("__debug__" : Str)) = false := by decide) (hall : (backToKw pos (keywordEach kws X.env)).all (·.1.isSome) = true := by rfl) (hks : (backToKw pos (keywordEach kws X.env)).filterMap (·.1) = ks := by rfl) (hml : ks.length = m := by rfl)
    (he : starEach (a :: es) X.env = (false, eval a X.env) :: starEach es X.env := by rfl) (hpl : ((backTo pos (starEach (a :: es) X.env)).any (·.1) || (backToKw pos (keywordEach kws X.env)).any (·.1.isNone)) = false := by rfl) :
    DE X W bv (.Call (.Name x p) (a :: es) kws pos) (callD Fs (kwA n m ix ds fr frk)) := by
  subst hml
  obtain ⟨f, fd, G, hm, hk, hb⟩ := h
  exact de_callK G hgd hr hm hk hb ha hkw hg hdb hall hks he hpl
theorem de_callHK0 (h : HasK X.prog X.w X.K X.mg X.base k x ps Fs 0 ks ix ds) (hgd : X.A.guards = some []) (hr : Room k X.A) (hkw : DK X W bv kws frk) (hg : Gl X x := by rfl) (hdb : (x == ("__debug__" : Str)) = false := by decide) (hall : (backToKw pos (keywordEach kws X.env)).all (·.1.isSome) = true := by rfl) (hks : (backToKw pos (keywordEach kws X.env)).filterMap (·.1) = ks := by rfl) (hml : ks.length = m := by rfl)
    (hpl : ((backTo pos (starEach [] X.env)).any (·.1) || (backToKw pos (keywordEach kws X.env)).any (·.1.isNone)) = false := by rfl) :
    DE X W bv (.Call (.Name x p) [] kws pos) (callD Fs (kwA 0 m ix ds arN frk)) := by
  subst hml
  obtain ⟨f, fd, G, hm, hk, hb⟩ := h
  exact de_callK0 G hgd hr hm hk hb hkw hg hdb hall hks hpl
end
section
variable {P : Program} {w : World} {K : PySem.W.Frag} {mg : Str → Option Value} {base : Heap} {x : Str} {st : Stmt} {k : Nat} {N ps : List Str} {B : List Nat} {g : EM Flow}
/-- the derivation of a def's body -/
def Body (P : Program) (w : World) (K : PySem.W.Frag) (mg : Str → Option Value) (base : Heap) (k : Nat) (x : Str) (st : Stmt) (N : List Str) (B : List Nat) (g : EM Flow) : Prop := ∀ (f : Addr) (cdv : Value) (A : Around) (outer : List PySem.Env) (s : Shared) (H : Hp) (vs : List V) (E : XK), (A.deeper (PyProof.Rows.envOfC x (defScope st) s.heap.objs.size f cdv)).guards = some [] →
  Room k (A.deeper (PyProof.Rows.envOfC x (defScope st) s.heap.objs.size f cdv)) → DSs (cxOf CX0 P w K mg base N x (defScope st) f cdv A outer s H E).nox W0 (bvB B vs) (defBody st) g
theorem has_of (Fn : FunAt K mg x st) (Sc : FnScope N ps (defScope st)) (hb : Body P w K mg base k x st N B g)
    (bi : ∀ (kV doc pm : Value) (an : Option Addr) (cdv ct : Value) (us : List Value), us.length = ps.length → bindArgs (PySem.W.fnOf x x (defArgs st) (defBody st) (defScope st) .none kV doc pm an cdv ct) ⟨us, []⟩ = pure (ps.zip us)) : Has P w K mg base (k + 1) x ps (defF ps.length N.length B g) := by
  obtain ⟨f, fd, Fn, hm⟩ := Fn
  exact ⟨f, fd, fn_F Fn Sc fun cdv A outer s H vs E hg hr => hb f cdv A outer s H vs E hg hr, hm, Fn.kp, Fn.binds bi⟩
theorem hasK_of {n : Nat} {ks : List Str} {ix : List (Nat ⊕ Nat)} (Fn : FunAt K mg x st) (Sc : FnScope N ps (defScope st)) (hb : Body P w K mg base k x st N B g) (ok : okIx (n + ks.length) 0 ix = true)
    (bi : ∀ (kV doc pm : Value) (an : Option Addr) (cdv ct : Value) (us ws : List Value), us.length = n → ws.length = ks.length → bindArgs (PySem.W.fnOf x x (defArgs st) (defBody st) (defScope st) .none kV doc pm an cdv ct) ⟨us, ks.zip ws⟩ = pure (ps.zip (pick (us ++ ws) [] ix))) : HasK P w K mg base (k + 1) x ps (defF ps.length N.length B g) n ks ix [] := by
  obtain ⟨f, fd, Fn, hm⟩ := Fn
  exact ⟨f, fd, fn_F Fn Sc fun cdv A outer s H vs E hg hr => hb f cdv A outer s H vs E hg hr, hm, Fn.kp, kb_plain Fn n ks ix ok bi⟩
theorem hasD_of {n : Nat} {ks : List Str} {ix : List (Nat ⊕ Nat)} {kws : List (Str × V)} {ms : List (Str × D)} (Fn : FunDAt K mg x st kws) (Sc : FnScope N ps (defScope st)) (hb : Body P w K mg base k x st N B g) (hk : kws ≠ []) (hms : ∀ q ∈ ms, (q.1, flatOf q.2) ∈ kws) (fl : flatAll (ms.map (·.2)) = true) (ok : okIx (n + ks.length) ms.length ix = true)
    (h : ∀ (D : Addr) (doc pm : Value) (an : Option Addr) (cdv ct : Value) (us ws mv : List Value), us.length = n → ws.length = ks.length → mv.length = ms.length →
      KwChain D ((ms.map (·.1)).zip mv) (bindArgs (PySem.W.fnOf x x (defArgs st) (defBody st) (defScope st) .none (.ref D) doc pm an cdv ct) ⟨us, ks.zip ws⟩) (ps.zip (pick (us ++ ws) mv ix))) : HasK P w K mg base (k + 1) x ps (defF ps.length N.length B g) n ks ix (ms.map (·.2)) := by
  obtain ⟨f, fd, Fn, hm⟩ := Fn
  exact ⟨f, fd, fn_F (Fun.of_D Fn) Sc fun cdv A outer s H vs E hg hr => hb f cdv A outer s H vs E hg hr, hm, Fn.kp, kb_kw Fn n ks ix ms hk hms fl ok h⟩
end
/-- the law's own call -/
theorem law_hs {g : List M → FOut} {n : Nat} (h : ∀ ns : List Int, ns.length ≤ n → ∃ ms', g [.im (.list (ns.map .int))] = .ok (.im (.bool true)) ms') (K : PySem.W.Frag) (H : Hp) (a : Addr) (ns : List Int) (hl : ns.length ≤ n) (hs : SqL K H a (ns.map V.int)) : spF K g [.ref a] H (fun v _ => v = .bl true) fun _ _ _ => False := by
  obtain ⟨ms', e⟩ := h ns hl
  have rl : RpL K H (ns.map V.int) (ns.map .int) := by
    induction ns with
    | nil => exact .nil
    | cons i r ih => exact .cons (.int i) (by
        clear ih e hs hl
        induction r with
        | nil => exact .nil
        | cons j r ih => exact .cons (.int j) ih)
  refine ⟨[.im (.list (ns.map .int))], H, fun _ => [], ⟨Sub.refl H, fun i m hm => ?_, (fun i a h => by cases h), (fun _ => List.nodup_nil), (fun _ _ _ h => by cases h), (fun _ _ h => by cases h), (fun _ _ h => by cases h), rfl⟩, ?_⟩
  · cases i with
    | zero =>
      simp at hm
      subst hm
      exact ⟨_, rfl, .im (.lst hs rl)⟩
    | succ i => simp at hm
  · rw [e]
    intro v F' H' fp' P' s' S' ⟨fpr, hP, o, _⟩
    cases o with
    | im r => cases r; rfl
end FD

/-! FD: a dict walked key by key: from then on nobody changes it. -/
namespace FD
open PySem L2
/-- the keys of a dict that is known to the object from now on -/
def iKeysF (td : TE) : TI := fun σ H R => td σ H fun x H1 => ∃ d, x = .ref d ∧
  ((∃ kvs, H1 d = some (.dT kvs) ∧ ∀ od, R (Itkt d od kvs) (upd H1 d (.frz od (.dT kvs)))) ∨ (∃ od kvs, H1 d = some (.frz od (.dT kvs)) ∧ R (Itkt d od kvs) H1) ∨
   (∃ kvs, H1 d = some (.dK kvs) ∧ ∀ od, R (Itk d od kvs) (upd H1 d (.frz od (.dK kvs)))) ∨ ∃ od kvs, H1 d = some (.frz od (.dK kvs)) ∧ R (Itk d od kvs) H1)
section
variable {X : Cx} {tg e : Expr} {td : TE}
theorem pi_keysF (he : PE X e td) : PI X tg e (iKeysF td) := by
  refine ⟨fun pins s σ H R I h => ?_⟩
  refine thn (he.run pins s σ H _ I h) fun u s1 ⟨x, H1, I1, rx, d, ex, q⟩ => ?_
  subst ex
  obtain rfl : u = Value.ref d := rx
  rcases q with ⟨kvs, hd, q⟩ | ⟨o, kvs, hd, q⟩ | ⟨kvs, hd, q⟩ | ⟨o, kvs, hd, q⟩
  · obtain ⟨od, I2⟩ := I1.lock hd trivial
    obtain ⟨hs, hgd, hx, es, ep, hdt, hsz, ent⟩ := I2.frzT upd_same
    refine iter_keys hs hgd hx hdt (pi_one (tk := s1.toks) I2 _ (turn_keysT _ hdt) ⟨_, Heap.get?_push_size _ rfl, rfl, ?_⟩ (q od))
    rw [hsz] <;> rfl
  · obtain ⟨hs, hgd, hx, es, ep, hdt, hsz, ent⟩ := I1.frzT hd
    refine iter_keys hs hgd hx hdt (pi_one (tk := s1.toks) I1 _ (turn_keysT _ hdt) ⟨_, Heap.get?_push_size _ rfl, rfl, ?_⟩ q)
    rw [hsz] <;> rfl
  · obtain ⟨od, I2⟩ := I1.lock hd trivial
    obtain ⟨hs, hgd, hx, es, ep, vs, hdt, hsz, kv, hm⟩ := I2.frzK upd_same
    refine iter_keys hs hgd hx hdt (pi_one (tk := s1.toks) I2 _ (turn_keys _ hdt) ⟨_, Heap.get?_push_size _ rfl, rfl, ?_⟩ (q od))
    rw [hsz] <;> rfl
  · obtain ⟨hs, hgd, hx, es, ep, vs, hdt, hsz, kv, hm⟩ := I1.frzK hd
    refine iter_keys hs hgd hx hdt (pi_one (tk := s1.toks) I1 _ (turn_keys _ hdt) ⟨_, Heap.get?_push_size _ rfl, rfl, ?_⟩ q)
    rw [hsz] <;> rfl
end
/-! ### what F knows of it is that it is known -/
section
variable {F H : Hp} {d : Addr} {u : HO}
/-- F told plain, H plain: both locked -/
theorem lock_sub {od : Obj} (s : Sub F H) (hF : Rd F d u) (hH : H d = some u) (nt : ∀ vs, u ≠ .tup vs) (nz : ∀ o w, u ≠ .frz o w) : Sub F (upd F d (.frz od u)) ∧ Sub (upd F d (.frz od u)) (upd H d (.frz od u)) := by
  have fd : F d = some u := by
    rcases hF with z | ⟨o, z⟩
    · exact z
    · have := s.fz _ _ _ z
      rw [hH] at this
      cases this
  refine ⟨⟨fun a w r => ?_, fun a ws q => ?_, fun a ob w q => ?_⟩, s.both⟩
  · by_cases e : a = d
    · subst e
      rcases r with r | ⟨o, r⟩
      · rw [fd] at r; cases r; exact .inr ⟨_, upd_same⟩
      · rw [fd] at r; cases r; exact absurd rfl (nz _ _)
    · exact rd_at (upd_ne e) r
  · by_cases e : a = d
    · subst e
      rw [fd] at q; cases q; exact absurd rfl (nt _)
    · rw [upd_ne e]; exact q
  · by_cases e : a = d
    · subst e
      rw [fd] at q; cases q; exact absurd rfl (nz _ _)
    · rw [upd_ne e]; exact q
/-- H known already -/
theorem know_sub {od : Obj} (s : Sub F H) (hF : Rd F d u) (hH : H d = some (.frz od u)) (nt : ∀ vs, u ≠ .tup vs) (nz : ∀ o w, u ≠ .frz o w) : Sub F (upd F d (.frz od u)) ∧ Sub (upd F d (.frz od u)) H := by
  have ru : ∀ w, Rd (upd F d (.frz od u)) d w → Rd H d w := fun w r => rd_at (by rw [hH, upd_same]) r
  refine ⟨⟨fun a w r => ?_, fun a ws q => ?_, fun a ob w q => ?_⟩, ⟨fun a w r => ?_, fun a ws q => ?_, fun a ob w q => ?_⟩⟩
  · by_cases e : a = d
    · subst e
      exact rd_at (by rw [hH, upd_same]) (s.rd _ _ r)
    · exact rd_at (upd_ne e) r
  · by_cases e : a = d
    · subst e
      have := s.tp _ _ q
      rw [hH] at this; cases this
    · rw [upd_ne e]; exact q
  · by_cases e : a = d
    · subst e
      have := s.fz _ _ _ q
      rw [hH] at this; cases this; exact upd_same
    · rw [upd_ne e]; exact q
  · by_cases e : a = d
    · subst e; exact ru w r
    · exact s.rd a w (rd_at (upd_ne e).symm r)
  · by_cases e : a = d
    · subst e; rw [upd_same] at q; cases q
    · rw [upd_ne e] at q; exact s.tp a ws q
  · by_cases e : a = d
    · subst e; rw [upd_same] at q; rw [hH]; exact q
    · rw [upd_ne e] at q; exact s.fz a ob w q
end
/-- a dict known from now on: the state -/
theorem SS.known {K : PySem.W.Frag} {bv : Nat → Option V} {e : Env} {σ : L2.St} {F H : Hp} {fp : Nat → List Addr} {d : Addr} {u : HO} (S : SS K bv e σ F H fp) (hF : Rd F d u) (nt : ∀ vs, u ≠ .tup vs) (nz : ∀ o w, u ≠ .frz o w) :
    (H d = some u ∧ ∀ od, Stp F H (Pf fp) (upd F d (.frz od u)) (upd H d (.frz od u)) (Pf fp) ∧ SS K bv e σ (upd F d (.frz od u)) (upd H d (.frz od u)) fp) ∨
    ∃ od, H d = some (.frz od u) ∧ Stp F H (Pf fp) (upd F d (.frz od u)) H (Pf fp) ∧ SS K bv e σ (upd F d (.frz od u)) H fp := by
  have fn : F d ≠ none := fun z => by
    rcases hF with q | ⟨_, q⟩ <;> rw [z] at q <;> cases q
  have off : ∀ i a, a ∈ fp i → a ≠ d := fun i a h z => fn (by rw [← z]; exact S.fr i a h)
  have newF : ∀ od a, upd F d (.frz od u) a ≠ none → F a ≠ none ∨ Pf fp a ∨ Nw H a := fun od a h => by
    by_cases e : a = d
    · subst e; exact .inl fn
    · rw [upd_ne e] at h; exact .inl h
  rcases S.sub.rd d u hF with hH | ⟨od, hH⟩
  · refine .inl ⟨hH, fun od => ?_⟩
    obtain ⟨s1, s2⟩ := lock_sub (od := od) S.sub hF hH nt nz
    refine ⟨⟨s1, fun a o h n f => ?_, fun a h => ?_, newF od, fun _ h => .inl h⟩, S.heap s1 s2 (fun i a o h q => ?_) fun i a h => ?_⟩
    · by_cases e : a = d
      · subst e
        rcases f with f | ⟨vs, f⟩
        · exact absurd f fn
        · rw [hH] at h; cases h; exact absurd f (nt vs)
      · rw [upd_ne e]; exact h
    · by_cases e : a = d
      · subst e; rw [upd_same] at h; cases h
      · rw [upd_ne e] at h; exact h
    · rw [upd_ne (off i a h)]; exact q
    · rw [upd_ne (off i a h)]; exact S.fr i a h
  · obtain ⟨s1, s2⟩ := know_sub (od := od) S.sub hF hH nt nz
    refine .inr ⟨od, hH, ⟨s1, fun _ _ h _ _ => h, fun _ h => h, newF od, fun _ h => .inl h⟩, S.heap s1 s2 (fun _ _ _ _ q => q) fun i a h => ?_⟩
    rw [upd_ne (off i a h)]; exact S.fr i a h
def itK : D → Option (List D)
  | .dict kvs => some (kvs.map (·.1))
  | _ => none
theorem kV_rp {K : PySem.W.Frag} {F : Hp} : ∀ k : Key, Rp K F (kV k) (keyD k)
  | .inl i => .int i
  | .inr x => .str x
theorem kVs_rp {K : PySem.W.Frag} {F : Hp} : ∀ ks : List Key, RpL K F (ks.map kV) (ks.map keyD)
  | [] => .nil
  | k :: ks => .cons (kV_rp k) (kVs_rp ks)
theorem walks_keysT {K : PySem.W.Frag} {F : Hp} {d : Addr} {od : Obj} {kvs : List (List Key × V)} {kds : List (List Key × D)} (hF : F d = some (.frz od (.dT kvs))) (hk : kvs.map (·.1) = kds.map (·.1)) :
    WalksD K (Itkt d od kvs) F ((kds.map fun p => (PyData.tuple (p.1.map keyD), p.2)).map (·.1)) := fun F' H i s1 s2 => by
  have hl : kvs.length = kds.length := by have := congrArg List.length hk; simpa using this
  have hH : H d = some (.frz od (.dT kvs)) := s2.fz _ _ _ (s1.fz _ _ _ hF)
  refine ⟨fun y hy => ?_, fun h1 _ => ⟨hH, by simp at h1; omega⟩⟩
  rw [List.map_map, List.getElem?_map] at hy
  obtain ⟨q, hq, rfl⟩ := Option.map_eq_some_iff.mp hy
  have hi : i < kds.length := (List.getElem?_eq_some_iff.mp hq).1
  refine ⟨⟨hH, by omega⟩, ?_⟩
  rintro x H' ⟨rfl, k, v, p, h1, rfl, h3⟩
  refine ⟨_, .inr (.inr ⟨p, _, h3, rfl, rfl⟩), ?_⟩
  have e1 : (kvs.map (·.1))[i]? = some k := by rw [List.getElem?_map, h1]; rfl
  rw [hk, List.getElem?_map, hq] at e1
  cases e1
  exact .tup upd_same (kVs_rp _)
theorem walks_keys {K : PySem.W.Frag} {F : Hp} {d : Addr} {od : Obj} {kvs : List (Key × V)} {kds : List (Key × D)} (hF : F d = some (.frz od (.dK kvs))) (hk : kvs.map (·.1) = kds.map (·.1)) :
    WalksD K (Itk d od kvs) F ((kds.map fun p => (keyD p.1, p.2)).map (·.1)) := fun F' H i s1 s2 => by
  have hl : kvs.length = kds.length := by have := congrArg List.length hk; simpa using this
  have hH : H d = some (.frz od (.dK kvs)) := s2.fz _ _ _ (s1.fz _ _ _ hF)
  refine ⟨fun y hy => ?_, fun h1 _ => ⟨hH, by simp at h1; omega⟩⟩
  rw [List.map_map, List.getElem?_map] at hy
  obtain ⟨q, hq, rfl⟩ := Option.map_eq_some_iff.mp hy
  have hi : i < kds.length := (List.getElem?_eq_some_iff.mp hq).1
  refine ⟨⟨hH, by omega⟩, ?_⟩
  rintro x H' ⟨rfl, k, v, h1, rfl⟩
  refine ⟨_, .inl ⟨rfl, rfl⟩, ?_⟩
  have e1 : (kvs.map (·.1))[i]? = some k := by rw [List.getElem?_map, h1]; rfl
  rw [hk, List.getElem?_map, hq] at e1
  cases e1
  exact kV_rp _
section
variable {X : Cx} {W : WX} {bv : Nat → Option V} {a : Expr} {fa : EM D}
theorem di_keys {tg : Expr} (h : DE X W bv a fa) : DI X W bv tg a (itE itK fa) :=
  pi_imp (pi_keysF h) fun σ H R t => tG.mono (tI_bnd t) fun x H1 ⟨d, e1, F1, fp1, ds, S1, r1, hk, q⟩ => by
    cases r1 with
    | dT hd e r =>
      cases hk
      refine ⟨_, rfl, ?_⟩
      rcases S1.known hd (fun _ z => nomatch z) (fun _ _ z => nomatch z) with ⟨hH, k⟩ | ⟨od, hH, st, S2⟩
      · exact .inl ⟨_, hH, fun od => q _ _ _ fp1 (k od).1 (k od).2 (walks_keysT upd_same e)⟩
      · exact .inr (.inl ⟨od, _, hH, q _ _ _ fp1 st S2 (walks_keysT upd_same e)⟩)
    | dK hd e r =>
      cases hk
      refine ⟨_, rfl, ?_⟩
      rcases S1.known hd (fun _ z => nomatch z) (fun _ _ z => nomatch z) with ⟨hH, k⟩ | ⟨od, hH, st, S2⟩
      · exact .inr (.inr (.inl ⟨_, hH, fun od => q _ _ _ fp1 (k od).1 (k od).2 (walks_keys upd_same e)⟩))
      · exact .inr (.inr (.inr ⟨od, _, hH, q _ _ _ fp1 st S2 (walks_keys upd_same e)⟩))
    | _ => cases hk
def itX : D → Option (List D)
  | .list ds => some ds
  | .tuple ds => some ds
  | .str x => some (x.cps.toList.map fun c => .str ⟨#[c]⟩)
  | .dict kvs => some (kvs.map (·.1))
  | _ => none
theorem di_any {tg : Expr} (h : DE X W bv a fa) : DI X W bv tg a (itE itX fa) :=
  pi_case fun e => by
    unfold itE bnd
    cases z : fa e with
    | no => exact ⟨itE itL fa, by unfold itE bnd; rw [z], di_list h⟩
    | ex C fs' e' => exact ⟨itE itL fa, by unfold itE bnd; rw [z], di_list h⟩
    | ok d e1 =>
      cases d with
      | tuple ds => exact ⟨itE itT fa, by unfold itE bnd; rw [z]; rfl, di_tup h⟩
      | str ds => exact ⟨itE itS fa, by unfold itE bnd; rw [z]; rfl, di_str h⟩
      | dict ds => exact ⟨itE itK fa, by unfold itE bnd; rw [z]; rfl, di_keys h⟩
      | _ => exact ⟨itE itL fa, by unfold itE bnd; rw [z]; rfl, di_list h⟩
end
end FD

/-! FD: a comprehension's list that its taker owns; extend, pop; sorted. -/
namespace FD
open PySem L2
def compM (vs : List Nat) (fi : EM (List D)) (t : D → EM Unit) (tt : EM Bool) (te : EM D) : EM M := bnd fi fun ds e => if vs.all (imAt e) then (match compL vs t tt te ds (wipeE e vs) with
  | .ok ys e1 => if few ys.length && vs.all (imAt e1) then .ok (.ls (ys.map .im)) (backE e1 e vs) else .no
  | _ => .no) else .no
section
variable {K : PySem.W.Frag} {W : WX} {bv : Nat → Option V} {σ : L2.St}
theorem compM_of {vs l : List Nat} {fi : EM (List D)} {t : D → EM Unit} {tt : EM Bool} {te : EM D} {H : Hp} {Q : VK} (hl : ∀ i ∈ l, i ∈ vs) (hb : vs.all (fun i => (bv i).isNone) = true)
    (h : tM K W bv (compM vs fi t tt te) σ H Q) : tLc (tI K W bv fi) (tTg K bv l t) (tT K W0 bv tt) (tE K W0 bv te) vs σ H Q := by
  obtain ⟨e, F, fp, S, q⟩ := h
  refine ⟨e, F, fp, S, ?_⟩
  unfold AtG compM bnd at q
  cases z : fi e with
  | no => rw [z] at q; exact q
  | ex C fs e' => rw [z] at q; exact q
  | ok ds e1 =>
    rw [z] at q
    intro J F1 H1 fp1 s1 S1 wk A hA
    dsimp only at q
    by_cases hw : vs.all (imAt e1) = true
    · rw [if_pos hw] at q
      cases z2 : compL vs t tt te ds (wipeE e1 vs) with
      | no => rw [z2] at q; exact q.elim
      | ex _ _ _ => rw [z2] at q; exact q.elim
      | ok zs ef =>
        rw [z2] at q
        dsimp only at q
        by_cases hfew : (few zs.length && vs.all (imAt ef)) = true
        · rw [if_pos hfew] at q
          rw [Bool.and_eq_true] at hfew
          have hz : zs.length ≤ 1000000 := of_decide_eq_true hfew.1
          have S1' := S1.wipe hw hb
          have fA : F1 A = none := S1.sub.non hA
          have pA : ¬ Pf fp1 A := fun ⟨i, h⟩ => by
            obtain ⟨o, ho⟩ := S1.live h
            rw [hA] at ho
            cases ho
          have C0 : CS K bv (wipeE e1 vs) (wipe σ vs) F1 (upd H1 A (.lst [])) fp1 A [] := by
            refine ⟨S1'.heap (Sub.refl F1) (S1.sub.mut fA) (fun i a o h q => ?_) S1.fr, ⟨[], upd_same, .nil⟩, fA, pA⟩
            rw [upd_ne (ne_of_none q hA)]
            exact q
          refine ⟨fun i m H' => m = ds.length - i ∧ i ≤ ds.length ∧ ∃ e' F' fp' ys zs', Stp F1 H1 (Pf fp1) F' H' (Pf fp') ∧ CS K bv e' (wipe σ vs) F' H' fp' A ys ∧ compL vs t tt te (ds.drop i) e' = .ok zs' ef ∧ ys ++ zs' = zs, ⟨ds.length, rfl, Nat.zero_le _, wipeE e1 vs, F1, fp1, [], zs, (Stp.refl _ _ _).grow hA, C0, z2, rfl⟩, ?_⟩
          rintro i m H' ⟨rfl, hi, e', F', fp', ys, zs', s', C', q', hyz⟩
          obtain ⟨go, stop⟩ := wk F' H' i s'.ext C'.ss.sub
          by_cases hlt : i < ds.length
          · refine .inr ⟨(go ds[i] (List.getElem?_eq_getElem hlt)).1, _, fun H2 h2 => ⟨ds.length - (i + 1), by omega, h2⟩, fun x H2 y => ?_⟩
            obtain ⟨F2, gr, r2⟩ := (go ds[i] (List.getElem?_eq_getElem hlt)).2 x H2 y
            have s2 : Stp F' H' (Pf fp') F2 H2 (Pf fp') := gr.stp C'.ss.sub
            have C2 := C'.step s2 (gr.ss C'.ss)
            rw [List.drop_eq_getElem_cons hlt] at q'
            refine turn_of hl hb (by rw [← hyz, List.length_append] at hz; exact hz) C2 r2 q' fun e3 F3 H3 fp3 ys3 zs3 ⟨H4, s4, h4⟩ C3 q3 h3 => ?_
            refine ⟨rfl, hlt, e3, F3, fp3, ys3, zs3, ?_, C3, q3, h3.trans hyz⟩
            have s5 := (s'.trans s2).trans s4
            rcases h4 with rfl | ⟨o, rfl⟩
            · exact s5
            · exact s5.grow hA
          · have ei : i = ds.length := by omega
            subst ei
            rw [List.drop_length] at q'
            cases q'
            rw [List.append_nil] at hyz
            subst hyz
            obtain ⟨acc, h1, h2⟩ := C'.li
            have hA0 : H A = none := s1.live A hA
            have s9 : Stp F H (Pf fp) F' H' (fun a => Pf fp' a ∨ a ∈ [A]) := by
              have s := s1.trans s'
              refine ⟨s.ext, s.keep, s.live, s.newF, fun a h => ?_⟩
              rcases h with h | h
              · exact s.newP a h
              · rw [List.mem_singleton] at h
                subst h
                exact .inr hA0
            refine .inl ⟨stop (Nat.le_refl _) (Nat.le_refl _), q _ F' H' fp' _ s9 (S1.unwipe hw s'.ext C'.ss hfew.2) ⟨[A], rfl, Own.ls (fp := []) h1 (OwnL.ims h2), by simp, fun a ha => ?_, fun a ha => ?_⟩⟩
            · rw [List.mem_singleton] at ha; subst ha; exact C'.np
            · rw [List.mem_singleton] at ha; subst ha; exact C'.nf
        · rw [if_neg hfew] at q
          exact q.elim
    · rw [if_neg hw] at q
      exact q.elim
end
section
variable {X : Cx} {W : WX} {bv : Nat → Option V} {pos : Pos}
theorem dm_comp {elt tg iter : Expr} {ifs : List Expr} {scope : Scope} (own : List (Str × Nat)) {l : List Nat} {fi : EM (List D)} {t : D → EM Unit} {tt : EM Bool} {te : EM D} (hN : X.N.Nodup) (hi : DI X W bv tg iter fi) (ok : BlkOk X.N X.env.scope scope own)
    (hg : ∀ (s : Shared) (H : Hp) (C : Addr) (cl : List (Str × Addr)) (fp : List Addr), DG (X.blk s H scope (compEnvC scope cl C X.env) fp) bv tg l t) (ht : ∀ (s : Shared) (H : Hp) (C : Addr) (cl : List (Str × Addr)) (fp : List Addr), DTs (X.blk s H scope (compEnvC scope cl C X.env) fp) W0 bv ifs tt)
    (he : ∀ (s : Shared) (H : Hp) (C : Addr) (cl : List (Str × Addr)) (fp : List Addr), DE (X.blk s H scope (compEnvC scope cl C X.env) fp) W0 bv elt te) (hl : l.all ((own.map (·.2)).contains ·) = true := by rfl) (hb : (own.map (·.2)).all (fun i => (bv i).isNone) = true := by rfl)
    (hc : X.calm = true := by rfl) (hs : ∀ x, foldedSetIterable iter X.env x = pure x := by intro _; rfl) :
    DM X W bv (.ListComp elt [⟨tg, iter, ifs, 0⟩] scope pos) (compM (own.map (·.2)) fi t tt te) :=
  pe_imp (pe_lc hc hN hi ok hg ht he hs) fun σ H Q h => compM_of (fun i hi => by
    rw [List.all_eq_true] at hl
    exact List.contains_iff_mem.mp (hl i hi)) hb h
theorem ds_setLcM (i : Nat) {y : Str} {py : Pos} {elt tg iter : Expr} {ifs : List Expr} {scope : Scope} (own : List (Str × Nat)) {l : List Nat} {spos : Pos} {fi : EM (List D)} {t : D → EM Unit} {tt : EM Bool} {te : EM D} (hN : X.N.Nodup) (hi : DI X W bv tg iter fi) (ok : BlkOk X.N X.env.scope scope own)
    (hg : ∀ (s : Shared) (H : Hp) (C : Addr) (cl : List (Str × Addr)) (fp : List Addr), DG (X.blk s H scope (compEnvC scope cl C X.env) fp) bv tg l t) (ht : ∀ (s : Shared) (H : Hp) (C : Addr) (cl : List (Str × Addr)) (fp : List Addr), DTs (X.blk s H scope (compEnvC scope cl C X.env) fp) W0 bv ifs tt)
    (he : ∀ (s : Shared) (H : Hp) (C : Addr) (cl : List (Str × Addr)) (fp : List Addr), DE (X.blk s H scope (compEnvC scope cl C X.env) fp) W0 bv elt te)
    (hsw : swapsWith (.ListComp elt [⟨tg, iter, ifs, 0⟩] scope pos) (some (.Name y py)) spos.line X.env = pure true)
    (hy : X.N[i]? = some y := by rfl) (hyl : X.env.scope.names.lookup y = some .local := by rfl) (hbi : bv i = none := by rfl)
    (hl : l.all ((own.map (·.2)).contains ·) = true := by rfl) (hb : (own.map (·.2)).all (fun i => (bv i).isNone) = true := by rfl) (hc : X.calm = true := by rfl) (hs : ∀ x, foldedSetIterable iter X.env x = pure x := by intro _; rfl) :
    DS X W bv (.Assign [.Name y py] (.ListComp elt [⟨tg, iter, ifs, 0⟩] scope pos) spos) (setM i (compM (own.map (·.2)) fi t tt te)) :=
  ps_imp (ps_setLc hc hN hy hyl hsw hi ok hg ht he hs) fun D σ H ⟨e, F, fp, S, q⟩ => compM_of (fun i hi => by
    rw [List.all_eq_true] at hl
    exact List.contains_iff_mem.mp (hl i hi)) hb (tG.mono (AtS.bndM S q) fun v H1 ⟨d, e1, F1, fp1, P1, _, s1, S1, r1, q1⟩ => stoM_at hbi s1 S1 r1 q1)
/-! ### xs.extend(e) -/
def extM (i : Nat) (m : M) : EM Flow := fun e => match m with
  | .ls ns => (match imAll ns with
    | some ds => (match e[i]? with
      | some (some (.ls ms)) => if few (ms.length + ds.length) then .ok .nxt (e.set i (some (.ls (ms ++ ds.map .im)))) else .no
      | _ => .no)
    | none => .no)
  | _ => .no
def extS (i : Nat) (f : EM M) : EM Flow := fun e => if isLs i e then bnd f (fun d => extM i d) e else .no
theorem OwnL.cat {K : PySem.W.Frag} {F H : Hp} {us : List V} {ds : List D} (r : RpL K F us ds) : ∀ {vs : List V} {ms : List M} {fpl : List Addr}, OwnL K F H vs ms fpl → OwnL K F H (vs ++ us) (ms ++ ds.map .im) fpl
  | _, _, _, .nil => OwnL.ims r
  | _, _, _, .cons h t => .cons h (OwnL.cat r t)
theorem ds_extend (i : Nat) {a : Expr} {fa : EM M} {x : Str} {px apos p : Pos} (h : DM X W bv a fa) (hN : X.N[i]? = some x := by rfl) (hv : Vis X.env.scope x := by first | exact Or.inl rfl | exact Or.inr (Or.inl rfl) | exact Or.inr (Or.inr rfl)) (hd : (x == ("__debug__" : Str)) = false := by decide) (hcd : (x == ("__classdict__" : Str)) = false := by decide)
    (hbase : attributeBase (.Name x px) "extend" X.env (eval (.Name x px) X.env) = eval (.Name x px) X.env := by rfl)
    (hfew : ((backTo p (starEach [a] X.env)).all (fun x => !x.1) && (backToKw p (keywordEach [] X.env)).all (fun x => x.1.isSome) && decide (([a] : List Expr).length + ([] : List Keyword).length + (if ([] : List Keyword).isEmpty then 0 else 1) < 30)) = true := by rfl)
    (hline : (apos.endLine == p.line) = true := by rfl) (hs : starEach [a] X.env = (false, eval a X.env) :: starEach [] X.env := by rfl) (hpl : (backTo p (starEach [] X.env)).any (·.1) = false := by rfl)
    (hsw : swapsWith (.Call (.Attribute (.Name x px) "extend" apos) [a] [] p) none pos.line X.env = pure false := by rfl) :
    DS X W bv (.Expr (.Call (.Attribute (.Name x px) "extend" apos) [a] [] p) pos) (extS i fa) :=
  ps_imp (ps_expr (pe_bm PySem.F.plainAttrs_list PySem.F.slot_list_extend PySem.F.type_list_extend mt_extend (pe_var hN hv hd hcd) (pa_cons h pa_nil hs) hbase hfew hline hs hpl) hsw) fun D σ H ⟨e, F, fp, S, q⟩ => by
    unfold AtS extS at q
    by_cases hl : isLs i e = true
    · rw [if_pos hl] at q
      obtain ⟨ms, he⟩ := isLs_at hl
      obtain ⟨a0, vs, fpl, h1, h2, _⟩ := S.lsAt he
      refine ⟨_, h1, .inl ⟨rfl, _, SqL.of h2⟩, ?_⟩
      refine tG.mono (AtS.bndM S q) fun v H1 ⟨m, e1, F1, fp1, P1, _, s1, S1, r1, q1⟩ => ?_
      unfold AtS extM at q1
      obtain ⟨fpr, hP, o, nd, dj, fr⟩ := r1
      cases m with
      | ls ns =>
        cases o with
        | ls hb r =>
          dsimp only at q1
          cases hi : imAll ns with
          | none => rw [hi] at q1; exact q1.elim
          | some ds =>
            rw [hi] at q1
            rw [of_imAll hi] at r
            obtain ⟨r, _⟩ := OwnL.of_ims r
            dsimp only at q1
            split at q1
            rotate_left
            exact q1.elim
            rename_i ms1 he1
            obtain ⟨a1, vs1, fpl1, g1, g2, g3, g4, g5⟩ := S1.lsAt he1
            rw [h1] at g1
            cases g1
            split at q1
            rotate_left
            exact q1.elim
            rename_i hz
            have hlen := g4.length
            have hlen2 := r.length
            have hz' := few_le hz
            refine ⟨_, _, _, _, rfl, rfl, g2, hb, by omega, ?_⟩
            obtain ⟨S2, s2⟩ := S1.upH (m := .ls (ms1 ++ ds.map .im)) (List.getElem?_eq_some_iff.mp he1).1 h1 g3 (.ls upd_same ((OwnL.cat r g4).other g5))
            have s1' : Stp F H (Pf fp) F1 H1 (Pf fp1) := ⟨s1.ext, s1.keep, s1.live, s1.newF, fun a ha => s1.newP a (by rw [hP]; exact .inl ha)⟩
            exact q1 σ F1 _ fp1 (s1'.trans s2) S2
      | _ => exact q1.elim
    · rw [if_neg hl] at q
      exact q.elim
end
/-! ### sorted -/
theorem perm_uniq {α : Type} {r : α → α → Prop} (anti : ∀ a b, r a b → r b a → a = b) : ∀ {l m : List α}, l.Pairwise r → m.Pairwise r → l.Perm m → l = m
  | [], m, _, _, p => (List.Perm.eq_nil p.symm).symm
  | a :: l, [], _, _, p => absurd p.length_eq (by simp)
  | a :: l, b :: m, hl, hm, p => by
    have e : a = b := by
      rcases List.mem_cons.mp (p.mem_iff.mp (List.mem_cons_self (a := a) (l := l))) with h | h
      · exact h
      · rcases List.mem_cons.mp (p.mem_iff.mpr (List.mem_cons_self (a := b) (l := m))) with h' | h'
        · exact h'.symm
        · exact anti a b ((List.pairwise_cons.mp hl).1 b h') ((List.pairwise_cons.mp hm).1 a h)
    subst e
    rw [perm_uniq anti (List.pairwise_cons.mp hl).2 (List.pairwise_cons.mp hm).2 p.cons_inv]
def leS (a b : Str) : Bool := !PySem.Spec.ltCps b.cps.toList a.cps.toList
theorem leS_iff {a b : Str} : leS a b = true ↔ a.cps.toList ≤ b.cps.toList := by
  unfold leS
  rw [PyProof.Rows.ltCps_eq]
  simp
theorem leS_trans (a b c : Str) (h1 : leS a b = true) (h2 : leS b c = true) : leS a c = true := leS_iff.mpr (List.le_trans (leS_iff.mp h1) (leS_iff.mp h2))
theorem leS_total (a b : Str) : (leS a b || leS b a) = true := by
  rw [Bool.or_eq_true, leS_iff, leS_iff]
  exact List.le_total _ _
theorem leS_anti (a b : Str) (h1 : leS a b = true) (h2 : leS b a = true) : a = b := by
  have e := List.le_antisymm (leS_iff.mp h1) (leS_iff.mp h2)
  cases a; cases b
  simp at e
  rw [e]
theorem leS_rising : ∀ {p : Str} {l : List Str}, PyProof.Rows.risingS p l = true → (p :: l).Pairwise fun a b => leS a b = true
  | p, [], _ => List.pairwise_singleton _ _
  | p, x :: r, h => by
    simp only [PyProof.Rows.risingS, Bool.and_eq_true] at h
    have ih := leS_rising h.2
    refine List.pairwise_cons.mpr ⟨fun y hy => ?_, ih⟩
    rcases List.mem_cons.mp hy with e | hy
    · rw [e]; exact h.1
    · exact leS_trans p x y h.1 ((List.pairwise_cons.mp ih).1 y hy)
theorem leS_sorted {l : List Str} (h : PyProof.Rows.sortedS l = true) : l.Pairwise fun a b => leS a b = true := by
  cases l with
  | nil => exact List.Pairwise.nil
  | cons x r => exact leS_rising h
def srtS (xs : List Str) : List Str := xs.mergeSort leS
def srtI (xs : List Int) : List Int := xs.mergeSort fun a b => decide (a ≤ b)
theorem srtS_of {xs ys : List Str} (p : ys.Perm xs) (h : PyProof.Rows.sortedS ys = true) : ys = srtS xs :=
  perm_uniq (r := fun a b => leS a b = true) leS_anti (leS_sorted h) (List.pairwise_mergeSort leS_trans leS_total xs) (p.trans (List.mergeSort_perm xs leS).symm)
theorem srtI_of {xs ys : List Int} (p : ys.Perm xs) (h : ys.Pairwise (· ≤ ·)) : ys = srtI xs :=
  perm_uniq (r := fun a b => a ≤ b) (fun a b h1 h2 => Int.le_antisymm h1 h2) h ((List.pairwise_mergeSort (le := fun a b : Int => decide (a ≤ b)) (fun a b c h1 h2 => by simp at *; omega) (fun a b => by simp; omega) xs).imp fun h => by simpa using h) (p.trans (List.mergeSort_perm xs _).symm)
def strsOf : List D → Option (List Str)
  | [] => some []
  | .str b :: r => (strsOf r).map (b :: ·)
  | _ => none
theorem RpL.strs {K : PySem.W.Frag} {F : Hp} : ∀ {vs : List V} {ds : List D} {xs : List Str}, RpL K F vs ds → strsOf ds = some xs → vs = xs.map V.str
  | _, _, _, .nil, h => by cases h; rfl
  | _, .str x :: ds, xs, .cons r t, h => by
    cases r
    obtain ⟨ys, h1, rfl⟩ := Option.map_eq_some_iff.mp h
    rw [List.map_cons, ← RpL.strs t h1]
  | _, .none :: _, _, _, h => by cases h
  | _, .bool _ :: _, _, _, h => by cases h
  | _, .int _ :: _, _, _, h => by cases h
  | _, .list _ :: _, _, _, h => by cases h
  | _, .tuple _ :: _, _, _, h => by cases h
  | _, .dict _ :: _, _, _, h => by cases h
theorem rpl_strs {K : PySem.W.Frag} {F : Hp} : ∀ xs : List Str, RpL K F (xs.map V.str) (xs.map PyData.str)
  | [] => .nil
  | x :: xs => .cons (.str x) (rpl_strs xs)
theorem rpl_ints {K : PySem.W.Frag} {F : Hp} : ∀ xs : List Int, RpL K F (xs.map V.int) (xs.map PyData.int)
  | [] => .nil
  | x :: xs => .cons (.int x) (rpl_ints xs)
def sortedD : List D → Option D
  | [.list ds] => match strsOf ds with
    | some xs => if decide (xs.length < 64) then some (.list ((srtS xs).map .str)) else none
    | none => (intsOf ds).map fun ns => .list ((srtI ns).map .int)
  | _ => none
section
variable {X : Cx} {W : WX} {bv : Nat → Option V} {pos : Pos}
theorem cb_sorted : CbD X (.builtin "sorted") sortedD := by
  refine ⟨_, CallR.or cr_sortedS cr_sortedI, ?_⟩
  intro W bv e σ F H fp vs ds Q S r q
  obtain ⟨d, hd, q'⟩ := q.lif
  unfold sortedD at hd
  split at hd
  · rename_i ds'
    cases r with
    | cons r t =>
      cases t
      cases r with
      | lst h rl =>
        split at hd
        · rename_i xs hx
          split at hd
          · rename_i h64
            cases hd
            refine .inl ⟨_, xs, rfl, by rw [← rl.strs hx]; exact S.sub.l h, of_decide_eq_true h64, fun ys p hp hs hn => ?_⟩
            rw [srtS_of hp hs]
            exact AtG.made (r := rD X.K) S q' hn (.lst (.inl (.inl upd_same)) (rpl_strs _))
          · cases hd
        · obtain ⟨ns, h1, rfl⟩ := Option.map_eq_some_iff.mp hd
          refine .inr ⟨_, ns, rfl, by rw [← rl.ints h1]; exact S.sub.l h, fun ys p hp hs hn => ?_⟩
          rw [srtI_of hp hs]
          exact AtG.made (r := rD X.K) S q' hn (.lst (.inl (.inl upd_same)) (rpl_ints _))
  · cases hd
end
end FD
namespace FD
open PySem L2
/-! ### a, b = data, a thing to own -/
def parDM (i j : Nat) (fa : EM D) (fm : EM M) : EM Flow := bnd fa fun d => bnd fm fun m => seqS (stoM j m) (stoM i (.im d))
section
variable {X : Cx} {W : WX} {bv : Nat → Option V} {pos : Pos} {a b : Expr} {fa : EM D} {fm : EM M}
theorem ds_parDM (i j : Nat) {x y : Str} {px py pt : Pos} {kt k2 pt2} (hN : X.N.Nodup) (ha : DE X W bv a fa) (hb : DM X W bv b fm) (hc : X.calm = true := by rfl) (hi : X.N[i]? = some x := by rfl) (hj : X.N[j]? = some y := by rfl) (hij : i ≠ j := by decide)
    (hx : X.env.scope.names.lookup x = some .local := by rfl) (hy : X.env.scope.names.lookup y = some .local := by rfl) (hbi : bv i = none := by rfl) (hbj : bv j = none := by rfl)
    (hw : swappedStores [.Tuple [.Name x px, .Name y py] kt pt] (.Tuple [a, b] k2 pt2) X.env = pure (some [x, y]) := by rfl)
    (hs : swapsWithSole [.Tuple [.Name x px, .Name y py] kt pt] (.Tuple [a, b] k2 pt2) pos.line X.env = pure false := by rfl)
    (hs1 : starEach (a :: [b]) X.env = (false, eval a X.env) :: starEach [b] X.env := by rfl) (hs2 : starEach (b :: []) X.env = (false, eval b X.env) :: starEach [] X.env := by rfl) :
    DS X W bv (.Assign [.Tuple [.Name x px, .Name y py] kt pt] (.Tuple [a, b] k2 pt2) pos) (parDM i j fa fm) :=
  ps_imp (ps_par hc hN hi hj hij hx hy (pa_cons ha (pa_cons hb pa_nil hs2) hs1) hw hs) fun D σ H ⟨e, F, fp, S, q⟩ => by
    refine tG.mono (AtS.bnd' (r := rD X.K) S q) fun v H1 ⟨d, e1, F1, fp1, _, _, S1, r1, q1⟩ => ?_
    refine tG.mono (AtS.bndM S1 q1) fun w H2 ⟨m, e2, F2, fp2, P2, _, s2, S2, r2, q2⟩ => ?_
    refine ⟨v, w, rfl, ?_⟩
    obtain ⟨fpr, hP, o, nd, dj, fr⟩ := r2
    unfold AtS seqS at q2
    by_cases hl : j < e2.length
    · have e4 : stoM j m e2 = .ok .nxt (e2.set j (some m)) := by unfold stoM; rw [if_pos hl]
      rw [e4] at q2
      have S3 := S2.store (P := P2) hl hbj o nd dj fr
      have s3 := stp_store (i := j) s2 hP
      have q3 : AtS X.K W bv (stoM i (.im d)) (e2.set j (some m)) (σ.set j (some w)) F2 H2 (put fp2 j fpr) D := AtS.back (σ := σ.set j (some w)) s3 q2
      have := stoM_at hbi (Stp.refl _ _ _) S3 (rM_im (Rp.mono s2.ext r1)) q3
      rw [List.set_comm _ _ hij]
      exact this
    · have e4 : stoM j m e2 = .no := by unfold stoM; rw [if_neg hl]
      rw [e4] at q2
      exact q2.elim
end
end FD

/-! FD: objects: ways into what a slot owns. -/
namespace FD
open PySem L2
/-- a way into objects: the class of each, and the field -/
abbrev Way := List (Str × Str)
def putG {α : Type} (f : Str) (v : α) : List (Str × α) → List (Str × α)
  | [] => [(f, v)]
  | (g, x) :: r => if g = f then (g, v) :: r else (g, x) :: putG f v r
theorem putF_G (f : Str) (v : V) : ∀ fs : List (Str × V), putF f v fs = putG f v fs
  | [] => rfl
  | (g, x) :: r => by
    rw [putF, putG, putF_G f v r]
def getP : Way → M → Option M
  | [], m => some m
  | (D, f) :: π, m => match m with
    | .ob C fs => if C = D then (fs.lookup f).bind (getP π) else none
    | _ => none
def setP : Way → M → M → M
  | [], _, n => n
  | (_, f) :: π, m, n => match m with
    | .ob C fs => match fs.lookup f with
      | some m1 => .ob C (putG f (setP π m1 n) fs)
      | none => .ob C fs
    | m => m
def PathV (K : PySem.W.Frag) (H : Hp) : Way → V → V → Prop
  | [], v, v' => v' = v
  | (C, f) :: π, v, v' => ∃ a ca dx fs u, v = .ref a ∧ PySem.W.nsIn K mainGlobals C = some (some (.ref ca)) ∧ H a = some (.ins ca dx fs) ∧ fs.lookup f = some u ∧ PathV K H π u v'
theorem putG_names {α β : Type} (f : Str) (v : α) (w : β) : ∀ {fs : List (Str × α)} {gs : List (Str × β)}, fs.map (·.1) = gs.map (·.1) → (putG f v fs).map (·.1) = (putG f w gs).map (·.1)
  | [], [], _ => rfl
  | [], _ :: _, h => by simp at h
  | _ :: _, [], h => by simp at h
  | (g, x) :: fs, (g', y) :: gs, h => by
    simp only [List.map_cons, List.cons.injEq] at h
    obtain ⟨rfl, h⟩ := h
    unfold putG
    by_cases e : g = f
    · rw [if_pos e, if_pos e]; simp [h]
    · rw [if_neg e, if_neg e]; simp [putG_names f v w h]
theorem putG_same {α : Type} {f : Str} {v : α} : ∀ {fs : List (Str × α)}, fs.lookup f = some v → putG f v fs = fs
  | [], h => by cases h
  | (g, x) :: fs, h => by
    unfold putG
    by_cases e : g = f
    · subst e
      rw [List.lookup_cons, beq_self_eq_true] at h
      cases h
      rw [if_pos rfl]
    · rw [if_neg e]
      rw [List.lookup_cons, show (f == g) = false by simpa using Ne.symm e] at h
      rw [putG_same h]
section
variable {K : PySem.W.Frag} {F H : Hp}
/-- a field of a row of owned things: itself, the rest, and what stands when it is another one -/
theorem OwnL.fld {f : Str} {m : M} : ∀ {fs : List (Str × V)} {fms : List (Str × M)} {fq : List Addr}, fs.map (·.1) = fms.map (·.1) → OwnL K F H (fs.map (·.2)) (fms.map (·.2)) fq → fms.lookup f = some m →
    ∃ v l r, fs.lookup f = some v ∧ Own K F H v m l ∧ fq.Perm (l ++ r) ∧ ∀ F' H' v' m' l', Sub F F' → (∀ a ∈ r, ∀ o, H a = some o → H' a = some o) → Own K F' H' v' m' l' → ∃ fq', fq'.Perm (l' ++ r) ∧ OwnL K F' H' ((putG f v' fs).map (·.2)) ((putG f m' fms).map (·.2)) fq'
  | [], [], _, _, _, h => by cases h
  | [], _ :: _, _, h, _, _ => by simp at h
  | _ :: _, [], _, h, _, _ => by simp at h
  | (g, x) :: fs, (g', y) :: fms, fq, hn, ho, hl => by
    simp only [List.map_cons, List.cons.injEq] at hn
    obtain ⟨rfl, hn⟩ := hn
    simp only [List.map_cons] at ho
    cases ho with
    | cons o t =>
      rename_i fp fr
      by_cases e : g = f
      · subst e
        rw [List.lookup_cons, beq_self_eq_true] at hl
        cases hl
        refine ⟨x, fp, fr, by rw [List.lookup_cons, beq_self_eq_true], o, List.Perm.refl _, fun F' H' v' m' l' s k o' => ?_⟩
        refine ⟨l' ++ fr, List.Perm.refl _, ?_⟩
        unfold putG
        rw [if_pos rfl, if_pos rfl]
        exact .cons o' (t.mono s k)
      · have e' : (f == g) = false := by simpa using Ne.symm e
        rw [List.lookup_cons, e'] at hl
        obtain ⟨v, l, r, h1, h2, h3, h4⟩ := OwnL.fld hn t hl
        refine ⟨v, l, fp ++ r, by rw [List.lookup_cons, e']; exact h1, h2, ?_, fun F' H' v' m' l' s k o' => ?_⟩
        · refine (List.Perm.append_left fp h3).trans ?_
          rw [← List.append_assoc, ← List.append_assoc]
          exact List.Perm.append_right r List.perm_append_comm
        · obtain ⟨fq', p', t'⟩ := h4 F' H' v' m' l' s (fun a ha => k a (List.mem_append_right _ ha)) o'
          refine ⟨fp ++ fq', ?_, ?_⟩
          · refine (List.Perm.append_left fp p').trans ?_
            rw [← List.append_assoc, ← List.append_assoc]
            exact List.Perm.append_right r List.perm_append_comm
          · unfold putG
            rw [if_neg e, if_neg e]
            exact .cons (o.mono s fun a ha => k a (List.mem_append_left _ ha)) t'
/-- what stands at the end of a way -/
theorem Own.focus : ∀ {π : Way} {v : V} {m m' : M} {fp : List Addr}, Own K F H v m fp → getP π m = some m' →
    ∃ v' l r, PathV K H π v v' ∧ Own K F H v' m' l ∧ fp.Perm (l ++ r) ∧ ∀ F' H' m'' l'', Sub F F' → (∀ a ∈ r, ∀ o, H a = some o → H' a = some o) → Own K F' H' v' m'' l'' → ∃ fp', fp'.Perm (l'' ++ r) ∧ Own K F' H' v (setP π m m'') fp'
  | [], v, m, m', fp, o, h => by
    cases h
    exact ⟨v, fp, [], rfl, o, by simp, fun F' H' m'' l'' s k o' => ⟨l'', by simp, o'⟩⟩
  | (D, f) :: π, v, m, m', fp, o, h => by
    cases o with
    | im r => cases h
    | gone => cases h
    | ls _ _ => cases h
    | dk _ _ _ => cases h
    | dt _ _ _ => cases h
    | ob hC ha e r =>
      rename_i a ca dx C fs fms fq
      simp only [getP] at h
      split at h
      rotate_left
      · cases h
      rename_i hCD
      subst hCD
      obtain ⟨m1, h1, h2⟩ := Option.bind_eq_some_iff.mp h
      obtain ⟨v1, l1, r1, g1, g2, g3, g4⟩ := OwnL.fld e r h1
      obtain ⟨v', l, r0, p1, p2, p3, p4⟩ := Own.focus g2 h2
      refine ⟨v', l, a :: (r0 ++ r1), ⟨a, ca, dx, fs, v1, rfl, hC, ha, g1, p1⟩, p2, ?_, fun F' H' m'' l'' s k o' => ?_⟩
      · refine (List.Perm.cons a (g3.trans ((List.Perm.append_right r1 p3).trans (by rw [List.append_assoc])))).trans ?_
        exact (List.perm_middle).symm
      · obtain ⟨l1', q1, q2⟩ := p4 F' H' m'' l'' s (fun b hb => k b (List.mem_cons_of_mem _ (List.mem_append_left _ hb))) o'
        obtain ⟨fq', q3, q4⟩ := g4 F' H' v1 (setP π m1 m'') l1' s (fun b hb => k b (List.mem_cons_of_mem _ (List.mem_append_right _ hb))) q2
        refine ⟨a :: fq', ?_, ?_⟩
        · refine (List.Perm.cons a (q3.trans ((List.Perm.append_right r1 q1).trans (by rw [List.append_assoc])))).trans ?_
          exact (List.perm_middle).symm
        · simp only [setP, h1]
          rw [putG_same g1] at q4
          refine .ob hC (k a List.mem_cons_self _ ha) ?_ q4
          rw [← putG_same g1]
          exact putG_names f v1 _ e
end
section
variable {K : PySem.W.Frag} {bv : Nat → Option V} {e : Env} {σ : L2.St} {F H : Hp} {fp : Nat → List Addr}
/-- what stands at a place, and what stands when it is another thing there -/
theorem SS.focus {i : Nat} {π : Way} {m m' : M} (S : SS K bv e σ F H fp) (he : e[i]? = some (some m)) (hg : getP π m = some m') :
    ∃ v v' l r, σ[i]? = some (some v) ∧ PathV K H π v v' ∧ Own K F H v' m' l ∧ (fp i).Perm (l ++ r) ∧ ∀ F' H' m'' l'', Sub F F' → Sub F' H' → (∀ a ∈ r, ∀ o, H a = some o → H' a = some o) → (∀ a ∈ r, F' a = none) →
      (∀ j, j ≠ i → ∀ a ∈ fp j, ∀ o, H a = some o → H' a = some o) → (∀ j, j ≠ i → ∀ a ∈ fp j, F' a = none) → Own K F' H' v' m'' l'' → l''.Nodup → (∀ a ∈ l'', F' a = none) → (∀ a ∈ l'', a ∉ r) → (∀ j, j ≠ i → ∀ a ∈ fp j, a ∉ l'') →
      ∃ fp', fp'.Perm (l'' ++ r) ∧ SS K bv (e.set i (some (setP π m m''))) σ F' H' (FD.put fp i fp') := by
  obtain ⟨v, hv, o⟩ := S.own i m he
  obtain ⟨v', l, r, h1, h2, h3, h4⟩ := o.focus hg
  refine ⟨v, v', l, r, hv, h1, h2, h3, fun F' H' m'' l'' s sub kr fr kj fj o' nd fl dr dj => ?_⟩
  obtain ⟨fp', p, o2⟩ := h4 F' H' m'' l'' s kr o'
  have ndr : r.Nodup := by
    have := h3.nodup_iff.mp (S.nd i)
    exact (List.nodup_append.mp this).2.1
  have rin : ∀ a ∈ r, a ∈ fp i := fun a ha => h3.mem_iff.mpr (List.mem_append_right _ ha)
  refine ⟨fp', p, S.put s sub (List.getElem?_eq_some_iff.mp he).1 hv (fun _ _ => rfl) rfl (fun u hu => ?_) o2 ?_ ?_ ?_ kj fj⟩
  · have q := S.bor i u hu
    rw [hv] at q
    cases q
    rfl
  · refine p.nodup_iff.mpr (List.nodup_append.mpr ⟨nd, ndr, fun a ha b hb z => ?_⟩)
    subst z
    exact dr a ha hb
  · intro a ha
    rcases List.mem_append.mp (p.mem_iff.mp ha) with z | z
    · exact fl a z
    · exact fr a z
  · intro j n a ha z
    rcases List.mem_append.mp (p.mem_iff.mp z) with z | z
    · exact dj j n a ha z
    · exact n (S.dj j i a ha (rin a z))
end
end FD

/-! FD: places: a slot, a way into it; read, peeked at, changed. -/
namespace FD
open PySem L2
/-- what stands at a place -/
def pgM (i : Nat) (π : Way) (e : Env) : Option M := match e[i]? with
  | some (some m) => getP π m
  | _ => none
def psM (i : Nat) (π : Way) (n : M) (e : Env) : Env := match e[i]? with
  | some (some m) => e.set i (some (setP π m n))
  | _ => e
theorem pgM_some {i : Nat} {π : Way} {e : Env} {m' : M} (h : pgM i π e = some m') : ∃ m, e[i]? = some (some m) ∧ getP π m = some m' := by
  unfold pgM at h
  split at h
  · rename_i m he; exact ⟨m, he, h⟩
  · cases h
theorem psM_eq {i : Nat} {π : Way} {e : Env} {m n : M} (h : e[i]? = some (some m)) : psM i π n e = e.set i (some (setP π m n)) := by
  unfold psM; rw [h]
/-- the object at a class's address has no such attribute by its class -/
def Att (K : PySem.W.Frag) (C f : Str) : Prop := ∀ ca, PySem.W.nsIn K mainGlobals C = some (some (.ref ca)) → Cls K ca ∧ NoAttr K ca f
def tPl (K : PySem.W.Frag) (i : Nat) (π : Way) : TE := fun σ H Q => ∃ v v', σ[i]? = some (some v) ∧ PathV K H π v v' ∧ Q v' H
theorem PathV.snoc {K : PySem.W.Frag} {H : Hp} {C f : Str} : ∀ {π : Way} {v v' : V}, PathV K H (π ++ [(C, f)]) v v' → ∃ u, PathV K H π v u ∧ PathV K H [(C, f)] u v'
  | [], v, v', h => ⟨v, rfl, h⟩
  | (D, g) :: π, v, v', h => by
    obtain ⟨a, ca, dx, fs, u, h1, h2, h3, h4, h5⟩ := h
    obtain ⟨w, k1, k2⟩ := PathV.snoc h5
    exact ⟨w, ⟨a, ca, dx, fs, u, h1, h2, h3, h4, k1⟩, k2⟩
theorem PathV.uniq {K : PySem.W.Frag} {H : Hp} : ∀ {π : Way} {v v1 v2 : V}, PathV K H π v v1 → PathV K H π v v2 → v1 = v2
  | [], v, v1, v2, h1, h2 => h1.trans h2.symm
  | (D, g) :: π, v, v1, v2, h1, h2 => by
    obtain ⟨a, ca, dx, fs, u, e1, _, e3, e4, e5⟩ := h1
    obtain ⟨a', ca', dx', fs', u', k1, _, k3, k4, k5⟩ := h2
    subst e1
    cases k1
    rw [e3] at k3
    cases k3
    rw [e4] at k4
    cases k4
    exact PathV.uniq e5 k5
section
variable {X : Cx} {W : WX} {bv : Nat → Option V} {pos p px : Pos} {a b o : Expr} {es : List Expr} {fa fb fc : EM D} {fs : EM (List D)} {x : Str} {i : Nat} {π : Way}
abbrev PL (X : Cx) (e : Expr) (i : Nat) (π : Way) : Prop := PE X e (tPl X.K i π)
theorem pl_var (i : Nat) (hN : X.N[i]? = some x := by rfl) (hv : Vis X.env.scope x := by first | exact Or.inl rfl | exact Or.inr (Or.inl rfl) | exact Or.inr (Or.inr rfl)) (hd : (x == ("__debug__" : Str)) = false := by decide) (hcd : (x == ("__classdict__" : Str)) = false := by decide) : PL X (.Name x pos) i [] :=
  pe_imp (pe_var hN hv hd hcd) fun σ H Q ⟨v, v', h1, h2, q⟩ => ⟨v, h1, by cases h2; exact q⟩
theorem pl_fld {C f : Str} (h : PL X o i π) (at_ : Att X.K C f) (hb : attributeBase o f X.env (eval o X.env) = eval o X.env := by rfl) : PL X (.Attribute o f pos) i (π ++ [(C, f)]) :=
  pe_imp (pe_fld h hb) fun σ H Q ⟨v, v', h1, h2, q⟩ => by
    obtain ⟨u, k1, k2⟩ := h2.snoc
    obtain ⟨a, ca, dx, fs, w, e1, e2, e3, e4, e5⟩ := k2
    cases e5
    exact ⟨v, u, h1, k1, a, ca, dx, fs, _, e1, e3, (at_ ca e2).1, (at_ ca e2).2, e4, q⟩
end
section
variable {K : PySem.W.Frag} {W : WX} {bv : Nat → Option V} {e : Env} {σ : L2.St} {F H : Hp} {fp : Nat → List Addr} {i : Nat} {π : Way}
/-- what stands at a place, in the heap -/
theorem SS.at {m' : M} (S : SS K bv e σ F H fp) (h : pgM i π e = some m') : ∃ v v' l, σ[i]? = some (some v) ∧ PathV K H π v v' ∧ Own K F H v' m' l ∧ (∀ a ∈ l, a ∈ fp i) ∧ l.Nodup := by
  obtain ⟨m, he, hg⟩ := pgM_some h
  obtain ⟨v, v', l, r, h1, h2, h3, h4, _⟩ := S.focus he hg
  exact ⟨v, v', l, h1, h2, h3, fun a ha => h4.mem_iff.mpr (List.mem_append_left _ ha), (List.nodup_append.mp (h4.nodup_iff.mp (S.nd i))).1⟩
/-- it becomes data that nobody changes any more -/
theorem SS.frzP {m' : M} {d : D} (S : SS K bv e σ F H fp) (h : pgM i π e = some m') (hd : m'.toD = some d) :
    ∃ F' fp' v v', σ[i]? = some (some v) ∧ PathV K H π v v' ∧ Stp F H (Pf fp) F' H (Pf fp') ∧ SS K bv (psM i π (.im d) e) σ F' H fp' ∧ Rp K F' v' d := by
  obtain ⟨m, he, hg⟩ := pgM_some h
  obtain ⟨v, v', l, r, h1, h2, h3, h4, h5⟩ := S.focus he hg
  have lin : ∀ a ∈ l, a ∈ fp i := fun a ha => h4.mem_iff.mpr (List.mem_append_left _ ha)
  have rin : ∀ a ∈ r, a ∈ fp i := fun a ha => h4.mem_iff.mpr (List.mem_append_right _ ha)
  have lr : ∀ a ∈ r, a ∉ l := fun a ha hl => (List.nodup_append.mp (h4.nodup_iff.mp (S.nd i))).2.2 a hl a ha rfl
  have fl : ∀ a ∈ l, F a = none := fun a ha => S.fr i a (lin a ha)
  have sF : Sub F (ov H F l) := Sub.ov fl
  have rp : Rp K (ov H F l) v' d := h3.frozen fl hd
  obtain ⟨fp', p, S'⟩ := h5 (ov H F l) H (.im d) [] sF S.sub.of_ov (fun _ _ _ h => h) (fun a ha => by rw [ov_out (lr a ha)]; exact S.fr i a (rin a ha)) (fun _ _ _ _ _ h => h) (fun j n a ha => by rw [ov_out fun z => n (S.dj j i a ha (lin a z))]; exact S.fr j a ha) (.im rp) List.nodup_nil (fun a ha => by cases ha) (fun a ha => by cases ha) (fun _ _ _ _ h => by cases h)
  refine ⟨ov H F l, FD.put fp i fp', v, v', h1, h2, ⟨sF, fun _ _ h _ _ => h, fun _ h => h, fun a ha => ?_, fun a ⟨j, hj⟩ => ?_⟩, by rw [psM_eq he]; exact S', rp⟩
  · by_cases n : a ∈ l
    · exact .inr (.inl ⟨i, lin a n⟩)
    · rw [ov_out n] at ha; exact .inl ha
  · by_cases n : j = i
    · subst n
      rw [put_same] at hj
      rcases List.mem_append.mp (p.mem_iff.mp hj) with z | z
      · cases z
      · exact .inl ⟨j, rin a z⟩
    · rw [put_ne n] at hj
      exact .inl ⟨j, hj⟩
/-- it is changed in place, what it owns stays -/
theorem SS.chg {m' : M} (S : SS K bv e σ F H fp) (h : pgM i π e = some m') :
    ∃ v v' l, σ[i]? = some (some v) ∧ PathV K H π v v' ∧ Own K F H v' m' l ∧ (∀ a ∈ l, a ∈ fp i) ∧ l.Nodup ∧ ∀ a fpl o n, l = a :: fpl → Own K F (upd H a o) v' n (a :: fpl) →
      ∃ fp', SS K bv (psM i π n e) σ F (upd H a o) fp' ∧ Stp F H (Pf fp) F (upd H a o) (Pf fp') := by
  obtain ⟨m, he, hg⟩ := pgM_some h
  obtain ⟨v, v', l, r, h1, h2, h3, h4, h5⟩ := S.focus he hg
  have lin : ∀ a ∈ l, a ∈ fp i := fun a ha => h4.mem_iff.mpr (List.mem_append_left _ ha)
  have rin : ∀ a ∈ r, a ∈ fp i := fun a ha => h4.mem_iff.mpr (List.mem_append_right _ ha)
  have ndl : (l ++ r).Nodup := h4.nodup_iff.mp (S.nd i)
  have lr : ∀ a ∈ l, a ∉ r := fun a hl ha => (List.nodup_append.mp ndl).2.2 a hl a ha rfl
  refine ⟨v, v', l, h1, h2, h3, lin, (List.nodup_append.mp ndl).1, fun a fpl o n e2 e3 => ?_⟩
  subst e2
  have al : a ∈ a :: fpl := List.mem_cons_self
  have ha : F a = none := S.fr i a (lin a al)
  obtain ⟨fp', p, S'⟩ := h5 F (upd H a o) n (a :: fpl) (Sub.refl F) (S.sub.mut ha) (fun b hb u hu => by rw [upd_ne fun z => lr a al (by rw [← z]; exact hb)]; exact hu) (fun b hb => S.fr i b (rin b hb))
    (fun j nj b hb u hu => by rw [upd_ne fun z => nj (S.dj j i b hb (by rw [z]; exact lin a al))]; exact hu) (fun j _ b hb => S.fr j b hb) e3 (List.nodup_append.mp ndl).1 (fun b hb => S.fr i b (lin b hb)) lr (fun j nj b hb z => nj (S.dj j i b hb (lin b z)))
  refine ⟨FD.put fp i fp', by rw [psM_eq he]; exact S', Sub.refl F, fun b u hb nb _ => ?_, fun b hb => ?_, fun b hb => .inl hb, fun b ⟨j, hj⟩ => ?_⟩
  · rw [upd_ne fun z => nb ⟨i, by rw [z]; exact lin a al⟩]
    exact hb
  · by_cases z : b = a
    · rw [z, upd_same] at hb; cases hb
    · rw [upd_ne z] at hb; exact hb
  · by_cases nj : j = i
    · subst nj
      rw [put_same] at hj
      rcases List.mem_append.mp (p.mem_iff.mp hj) with z | z
      · exact .inl ⟨j, lin b z⟩
      · exact .inl ⟨j, rin b z⟩
    · rw [put_ne nj] at hj
      exact .inl ⟨j, hj⟩
end
/-! ### read -/
def varP (i : Nat) (π : Way) : EM D := fun e => match pgM i π e with
  | some (.im d) => .ok d e
  | some m => match m.toD with
    | some d => .ok d (psM i π (.im d) e)
    | none => .no
  | none => .no
section
variable {X : Cx} {W : WX} {bv : Nat → Option V} {pos p px : Pos} {a b o : Expr} {es : List Expr} {fa fb fc : EM D} {fs : EM (List D)} {x : Str} {i : Nat} {π : Way}
theorem de_pl (h : PL X a i π) : DE X W bv a (varP i π) :=
  pe_imp h fun σ H Q ⟨e, F, fp, S, q⟩ => by
    unfold AtG varP at q
    split at q
    · rename_i d hd e' hx
      cases hp : pgM i π e with
      | none => rw [hp] at hx; cases hx
      | some m =>
        rw [hp] at hx
        cases m with
        | im d0 =>
          cases hx
          obtain ⟨v, v', l, h1, h2, h3, _⟩ := S.at hp
          cases h3 with
          | im r => exact ⟨v, v', h1, h2, q v' F H fp _ (Stp.refl _ _ _) S ⟨rfl, r⟩⟩
        | _ =>
          simp only at hx
          split at hx
          · rename_i d1 hd1
            cases hx
            obtain ⟨F', fp', v, v', h1, h2, s', S', r⟩ := S.frzP hp hd1
            exact ⟨v, v', h1, h2, q v' F' H fp' _ s' S' ⟨rfl, r⟩⟩
          · cases hx
    · rename_i hx
      exfalso
      split at hx
      · cases hx
      · split at hx <;> cases hx
      · cases hx
    · exact q.elim
end
end FD

/-! FD: quiet expressions: they change nothing that is owned. -/
namespace FD
open PySem L2
def noP : Addr → Prop := fun _ => False
def tQ {τ α : Type} (K : PySem.W.Frag) (bv : Nat → Option V) (r : Hp → τ → α → Prop) (g : Env → Option α) : L2.St → Hp → (τ → Hp → Prop) → Prop := fun σ H Q => ∃ e F fp, SS K bv e σ F H fp ∧ ∃ d, g e = some d ∧ ∀ v F' H', Stp F H noP F' H' noP → SS K bv e σ F' H' fp → r F' v d → Q v H'
abbrev DQ (X : Cx) (bv : Nat → Option V) (e : Expr) (g : Env → Option D) : Prop := PE X e (tQ X.K bv (rD X.K) g)
abbrev DQA (X : Cx) (bv : Nat → Option V) (es : List Expr) (g : Env → Option (List D)) : Prop := PA X es (tQ X.K bv (rL X.K) g)
theorem Stp.loud {F H F' H' : Hp} {P : Addr → Prop} (s : Stp F H noP F' H' noP) : Stp F H P F' H' P :=
  ⟨s.ext, fun a o h _ f => s.keep a o h id f, s.live, fun a h => (s.newF a h).imp id fun z => z.elim False.elim .inr, fun _ h => .inl h⟩
def qE {α : Type} (g : Env → Option α) : EM α := fun e => match g e with
  | some d => .ok d e
  | none => .no
section
variable {X : Cx} {W : WX} {bv : Nat → Option V} {pos p px : Pos} {a b o : Expr} {es : List Expr} {ga gb gc : Env → Option D} {gs : Env → Option (List D)} {x : Str} {i : Nat} {π : Way}
theorem de_q (h : DQ X bv a ga) : DE X W bv a (qE ga) :=
  pe_imp h fun σ H Q ⟨e, F, fp, S, q⟩ => by
    unfold AtG qE at q
    cases hg : ga e with
    | none => rw [hg] at q; exact q.elim
    | some d =>
      rw [hg] at q
      exact ⟨e, F, fp, S, d, hg, fun v F' H' s S' r => q v F' H' fp _ s.loud S' ⟨rfl, r⟩⟩
theorem tQ.mono {τ α : Type} {K : PySem.W.Frag} {r : Hp → τ → α → Prop} {g : Env → Option α} {σ : L2.St} {H : Hp} {Q Q' : τ → Hp → Prop} (h : tQ K bv r g σ H Q) (w : ∀ v H', Q v H' → Q' v H') : tQ K bv r g σ H Q' := by
  obtain ⟨e, F, fp, S, d, hd, q⟩ := h
  exact ⟨e, F, fp, S, d, hd, fun v F' H' s S' r => w v H' (q v F' H' s S' r)⟩
/-! rules -/
theorem dq_c {v : V} {d : D} (h : PE X a (tC v)) (r : ∀ F : Hp, Rp X.K F v d) : DQ X bv a (fun _ => some d) :=
  pe_imp h fun σ H Q ⟨e, F, fp, S, d', hd, q⟩ => by cases hd; exact q v F H (Stp.refl _ _ _) S (r F)
theorem dq_int {i : Int} {j} : DQ X bv (.Constant (.int i) j pos) (fun _ => some (.int i)) := dq_c pe_int fun _ => .int i
theorem dq_bl {b : Bool} {j} : DQ X bv (.Constant (.bool b) j pos) (fun _ => some (.bool b)) := dq_c pe_bl fun _ => .bl b
theorem dq_non {j} : DQ X bv (.Constant .none j pos) (fun _ => some .none) := dq_c pe_non fun _ => .non
theorem dq_str {x : Str} {j} : DQ X bv (.Constant (.str x) j pos) (fun _ => some (.str x)) := dq_c pe_str fun _ => .str x
theorem dq_con {d : D} (h : Con X.mg x d) (hg : Gl X x := by rfl) (hd : (x == ("__debug__" : Str)) = false := by decide) : DQ X bv (.Name x pos) (fun _ => some d) := by
  obtain ⟨hf, u, hu, r⟩ := h
  exact dq_c (pe_glob hg hu r hd) fun _ => Rp.flat hf
/-- data at a place -/
def qP (i : Nat) (π : Way) : Env → Option D := fun e => match pgM i π e with
  | some (.im d) => some d
  | _ => none
theorem dq_pl (h : PL X a i π) : DQ X bv a (qP i π) :=
  pe_imp h fun σ H Q ⟨e, F, fp, S, d, hd, q⟩ => by
    unfold qP at hd
    split at hd
    · rename_i d' hp
      cases hd
      obtain ⟨v, v', l, h1, h2, h3, _⟩ := S.at hp
      cases h3 with
      | im r => exact ⟨v, v', h1, h2, q v' F H (Stp.refl _ _ _) S r⟩
    · cases hd
def qB (g : D → D → Option D) (ga gb : Env → Option D) : Env → Option D := fun e => (ga e).bind fun x => (gb e).bind fun y => g x y
/-- an operation asked where nothing is owned -/
theorem SS.bare {K : PySem.W.Frag} {F H : Hp} (s : Sub F H) : SS K (fun _ => none) [] [] F H (fun _ => []) :=
  ⟨s, (fun i m h => by simp at h), (fun i a h => by cases h), (fun _ => List.nodup_nil), (fun _ _ _ h => by cases h), (fun _ _ h => by cases h), (fun _ _ h => by cases h), rfl⟩
theorem bare_P {F H F' H' : Hp} {fp' : Nat → List Addr} {P' : Addr → Prop} (s : Stp F H (Pf fun _ => []) F' H' P') (hP : P' = Pf fp') : Stp F H noP F' H' noP :=
  ⟨s.ext, fun a o h _ f => s.keep a o h (fun ⟨_, z⟩ => by cases z) f, s.live, fun a h => (s.newF a h).imp id fun z => z.elim (fun ⟨_, q⟩ => by cases q) .inr, fun _ h => h.elim⟩
/-- what is owned by the slots is kept by what is quiet -/
theorem SS.quiet {K : PySem.W.Frag} {e : Env} {σ : L2.St} {F H F' H' : Hp} {fp : Nat → List Addr} (S : SS K bv e σ F H fp) (s : Stp F H noP F' H' noP) (sub : Sub F' H') : SS K bv e σ F' H' fp :=
  S.heap s.ext sub (fun i a o h q => s.keep a o q id (.inl (S.fr i a h))) fun i a h => by
    cases q : F' a with
    | none => rfl
    | some o =>
      rcases s.newF a (by rw [q]; simp) with z | z | z
      · exact absurd (S.fr i a h) z
      · exact z.elim
      · obtain ⟨o', q'⟩ := S.live h
        obtain ⟨vs, e1⟩ := z _ q'
        rw [e1] at q'
        exact absurd q' (S.ntup h vs)
theorem op_quiet {K : PySem.W.Frag} {r : R2} {g : D → D → Option D} {F H : Hp} {x y : V} {d1 d2 d : D} {Q : VK} (h : OpV K r g) (sub : Sub F H) (r1 : Rp K F x d1) (r2 : Rp K F y d2) (hg : g d1 d2 = some d) (q : ∀ v F' H', Stp F H noP F' H' noP → Sub F' H' → Rp K F' v d → Q v H') : r x y H Q := by
  refine h W0 (fun _ => none) [] [] F H (fun _ => []) x y d1 d2 Q (SS.bare sub) r1 r2 ?_
  rw [hg]
  intro v F' H' fp' P' s S' ⟨hP, rr⟩
  exact q v F' H' (bare_P s hP) S'.sub rr
theorem dq_op {r : R2} {g : D → D → Option D} {t : TE} (h : OpV X.K r g) (ht : ∀ σ H Q, tOp r (tQ X.K bv (rD X.K) ga) (tQ X.K bv (rD X.K) gb) σ H Q → t σ H Q) (σ : L2.St) (H : Hp) (Q : VK) (q : tQ X.K bv (rD X.K) (qB g ga gb) σ H Q) : t σ H Q := by
  refine ht σ H Q ?_
  obtain ⟨e, F, fp, S, d, hd, q⟩ := q
  obtain ⟨d1, h1, hd⟩ := Option.bind_eq_some_iff.mp hd
  obtain ⟨d2, h2, hd⟩ := Option.bind_eq_some_iff.mp hd
  refine ⟨e, F, fp, S, d1, h1, fun x F1 H1 s1 S1 r1 => ⟨e, F1, fp, S1, d2, h2, fun y F2 H2 s2 S2 r2 => ?_⟩⟩
  refine op_quiet h S2.sub (Rp.mono s2.ext r1) r2 hd fun v F' H' s3 sub3 rr => ?_
  exact q v F' H' ((s1.trans s2).trans s3) (S2.quiet s3 sub3) rr
theorem dq_bin {op : Operator} {g : D → D → Option D} (ho : OpD X (binaryOp op) g) (ha : DQ X bv a ga) (hb : DQ X bv b gb) : DQ X bv (.BinOp a op b pos) (qB g ga gb) := by
  obtain ⟨r, hr, h⟩ := ho
  exact pe_imp (pe_op hr ha hb) (dq_op h fun σ H Q t => t)
def qN : Env → Option (List D) := fun _ => some []
def qC (ga : Env → Option D) (gs : Env → Option (List D)) : Env → Option (List D) := fun e => (ga e).bind fun x => (gs e).map (x :: ·)
theorem dqa_nil : DQA X bv [] qN := pa_imp pa_nil fun σ H Q ⟨e, F, fp, S, d, hd, q⟩ => by cases hd; exact q [] F H (Stp.refl _ _ _) S .nil
theorem dqa_cons (h : DQ X bv a ga) (hr : DQA X bv es gs) (hs : starEach (a :: es) X.env = (false, eval a X.env) :: starEach es X.env := by rfl) : DQA X bv (a :: es) (qC ga gs) :=
  pa_imp (pa_cons h hr hs) fun σ H Q ⟨e, F, fp, S, d, hd, q⟩ => by
    obtain ⟨d1, h1, hd⟩ := Option.bind_eq_some_iff.mp hd
    obtain ⟨ds, h2, rfl⟩ := Option.map_eq_some_iff.mp hd
    exact ⟨e, F, fp, S, d1, h1, fun x F1 H1 s1 S1 r1 => ⟨e, F1, fp, S1, ds, h2, fun y F2 H2 s2 S2 r2 => q (x :: y) F2 H2 (s1.trans s2) S2 (.cons (Rp.mono s2.ext r1) r2)⟩⟩
def qR (g : List D → Option D) (gs : Env → Option (List D)) : Env → Option D := fun e => (gs e).bind g
theorem dq_tup (h : DQA X bv es gs) : DQ X bv (.Tuple es k pos) (qR (fun ds => if few ds.length then some (.tuple ds) else none) gs) :=
  pe_imp (pe_tup h) fun σ H Q ⟨e, F, fp, S, d, hd, q⟩ => by
    obtain ⟨ds, h1, hd⟩ := Option.bind_eq_some_iff.mp hd
    split at hd
    rotate_left
    · cases hd
    rename_i hz
    cases hd
    refine ⟨e, F, fp, S, ds, h1, fun vs F1 H1 s1 S1 r1 => ⟨by rw [RpL.length r1]; exact few_le hz, fun p hp => ?_⟩⟩
    exact q _ _ _ (s1.trans (Stp.new S1.sub hp)) (S1.new hp) (.tup upd_same (RpL.mono (Sub.new (S1.sub.non hp)) r1))
theorem dq_lst (h : DQA X bv es gs) : DQ X bv (.List es pos) (qR (fun ds => if few ds.length then some (.list ds) else none) gs) :=
  pe_imp (pe_lst h) fun σ H Q ⟨e, F, fp, S, d, hd, q⟩ => by
    obtain ⟨ds, h1, hd⟩ := Option.bind_eq_some_iff.mp hd
    split at hd
    rotate_left
    · cases hd
    rename_i hz
    cases hd
    refine ⟨e, F, fp, S, ds, h1, fun vs F1 H1 s1 S1 r1 => ⟨by rw [RpL.length r1]; exact few_le hz, fun p hp => ?_⟩⟩
    exact q _ _ _ (s1.trans (Stp.new S1.sub hp)) (S1.new hp) (.lst (.inl (.inl upd_same)) (RpL.mono (Sub.new (S1.sub.non hp)) r1))
end
end FD

/-! FD: what is done at places. -/
namespace FD
open PySem L2
theorem Own.way {K : PySem.W.Frag} {F H H' : Hp} : ∀ {π : Way} {v v' : V} {m m' : M} {fp : List Addr}, Own K F H v m fp → getP π m = some m' → PathV K H π v v' → (∀ a ∈ fp, ∀ o, H a = some o → H' a = some o) → PathV K H' π v v'
  | [], _, _, _, _, _, _, _, p, _ => p
  | (D, f) :: π, v, v', m, m', fp, o, h, p, k => by
    cases o with
    | im r => cases h
    | gone => cases h
    | ls _ _ => cases h
    | dk _ _ _ => cases h
    | dt _ _ _ => cases h
    | ob hC ha e r =>
      rename_i a ca dx C fs fms fq
      simp only [getP] at h
      split at h
      rotate_left
      · cases h
      obtain ⟨m1, h1, h2⟩ := Option.bind_eq_some_iff.mp h
      obtain ⟨v1, l1, r1, g1, g2, g3, _⟩ := OwnL.fld e r h1
      obtain ⟨a', ca', dx', fs', u, e1, e2, e3, e4, e5⟩ := p
      cases e1
      rw [ha] at e3
      cases e3
      rw [g1] at e4
      cases e4
      exact ⟨a, ca, dx, fs, v1, rfl, e2, k a List.mem_cons_self _ ha, g1, Own.way g2 h2 e5 fun b hb => k b (List.mem_cons_of_mem _ (g3.mem_iff.mpr (List.mem_append_left _ hb)))⟩
section
variable {K : PySem.W.Frag} {W : WX} {bv : Nat → Option V} {e : Env} {σ : L2.St} {F H F' H' : Hp} {fp : Nat → List Addr} {i : Nat} {π : Way}
/-- the thing at a place is the same one behind what is quiet -/
theorem SS.still {m' : M} {v v' : V} (S : SS K bv e σ F H fp) (h : pgM i π e = some m') (hv : σ[i]? = some (some v)) (p : PathV K H π v v') (s : Stp F H noP F' H' noP) (S' : SS K bv e σ F' H' fp) : PathV K H' π v v' ∧ ∃ l, Own K F' H' v' m' l ∧ (∀ a ∈ l, a ∈ fp i) ∧ l.Nodup := by
  obtain ⟨m, he, hg⟩ := pgM_some h
  obtain ⟨w, hw, o⟩ := S.own i m he
  rw [hv] at hw
  cases hw
  have p' : PathV K H' π v v' := o.way hg p fun a ha u hu => s.keep a u hu id (.inl (S.fr i a ha))
  obtain ⟨w, w', l, h1, h2, h3, h4, h5⟩ := S'.at h
  rw [hv] at h1
  cases h1
  refine ⟨p', ?_⟩
  rw [PathV.uniq p' h2]
  exact ⟨l, h3, h4, h5⟩
end
def itemMM (m : M) (y : D) : Option D := match m with
  | .ls ms => match y with
    | .int k => match atI ms k with
      | some (.im d) => some d
      | _ => none
    | _ => none
  | .dk kms => match kOf y with
    | some k => match lookK kms k with
      | some (.im d) => some d
      | _ => none
    | none => none
  | .dt kms => match ksOf y with
    | some k => match lookK kms k with
      | some (.im d) => some d
      | _ => none
    | none => none
  | _ => none
def opP {α : Type} (i : Nat) (π : Way) (g : Env → Option D) (k : M → D → Option α) : EM α := fun e => match pgM i π e with
  | some m => match g e with
    | some y => match k m y with
      | some d => .ok d e
      | none => .no
    | none => .no
  | none => .no
theorem opP_some {α τ : Type} {K : PySem.W.Frag} {W : WX} {bv : Nat → Option V} {R : RG τ α} {e : Env} {σ : L2.St} {F H : Hp} {fp : Nat → List Addr} {i : Nat} {π : Way} {g : Env → Option D} {k : M → D → Option α} {Q : τ → Hp → Prop} (q : AtG K W bv R (opP i π g k) e σ F H fp Q) :
    ∃ m y d, pgM i π e = some m ∧ g e = some y ∧ k m y = some d ∧ AtG K W bv R (FD.ret d) e σ F H fp Q := by
  unfold AtG opP at q
  cases h1 : pgM i π e with
  | none => rw [h1] at q; exact q.elim
  | some m =>
    rw [h1] at q
    cases h2 : g e with
    | none => simp only [h2] at q
    | some y =>
      simp only [h2] at q
      cases h3 : k m y with
      | none => simp only [h3] at q
      | some d => simp only [h3] at q; exact ⟨m, y, d, rfl, rfl, h3, q⟩
theorem atI_own {K : PySem.W.Frag} {F H : Hp} {vs : List V} {ms : List M} {fpl : List Addr} {k : Int} {d : D} (r : OwnL K F H vs ms fpl) (h : atI ms k = some (.im d)) : ∃ v, atI vs k = some v ∧ Rp K F v d := by
  unfold atI at h ⊢
  rw [r.length]
  obtain ⟨j, h1, h2⟩ := Option.bind_eq_some_iff.mp h
  obtain ⟨v, l, h3, h4, _⟩ := r.get h2
  cases h4 with
  | im q => exact ⟨v, by rw [h1]; exact h3, q⟩
section
variable {X : Cx} {W : WX} {bv : Nat → Option V} {pos p px apos : Pos} {a b o : Expr} {es : List Expr} {fa : EM D} {ga gb gc : Env → Option D} {gs : Env → Option (List D)} {x : Str} {i : Nat} {π : Way}
/-- xs[k] -/
theorem de_ixPl {k : Nat} (hr : Room k X.A) (ho : PL X o i π) (hb : DQ X bv b gb) (hs : PlainIx b := by exact fun _ _ => rfl) : DE X W bv (.Subscript o b pos) (opP i π gb itemMM) :=
  pe_imp (pe_ix (ix_seq.or (ix_dict hr)) ho hb hs) fun σ H Q ⟨e, F, fp, S, q⟩ => by
    obtain ⟨m, y, d, hp, hy, hd, q⟩ := opP_some q
    obtain ⟨v, v', l0, h1, h2, h3, _⟩ := S.at hp
    refine ⟨v, v', h1, h2, e, F, fp, S, y, hy, fun w F1 H1 s1 S1 r1 => ?_⟩
    obtain ⟨_, l, o1, _, _⟩ := S.still hp h1 h2 s1 S1
    have fin : ∀ u, Rp X.K F1 u d → Q u H1 := fun u ru => q u F1 H1 fp _ s1.loud S1 ⟨rfl, ru⟩
    unfold itemMM at hd
    split at hd
    · cases o1 with
      | ls hl ro =>
        split at hd
        · cases r1
          split at hd
          · rename_i kk d1 hk
            cases hd
            obtain ⟨u, k1, k2⟩ := atI_own ro hk
            exact .inl (.inl ⟨_, _, _, _, rfl, rfl, SqL.of hl, k1, fin u k2⟩)
          · cases hd
        · cases hd
    · cases o1 with
      | dk hl hn ro =>
        split at hd
        · rename_i kk hk
          have ey := Rp.key r1 hk
          subst ey
          rcases look_own (k := kk) hn ro with ⟨e1, _⟩ | ⟨u, m1, l1, e1, e2, o2, _⟩
          · rw [e1] at hd; cases hd
          · rw [e2] at hd
            split at hd
            · rename_i z
              cases hd
              cases z
              cases o2
              refine .inr ⟨_, u, rfl, ?_, fin u (by assumption)⟩
              rw [← e1]
              exact DGet.k hl
            · cases hd
        · cases hd
    · cases o1 with
      | dt hl hn ro =>
        split at hd
        · rename_i kk hk
          obtain ⟨kb, rfl, hkb⟩ := Rp.keyT r1 hk
          rcases look_own (k := kk) hn ro with ⟨e1, _⟩ | ⟨u, m1, l1, e1, e2, o2, _⟩
          · rw [e1] at hd; cases hd
          · rw [e2] at hd
            split at hd
            · rename_i z
              cases hd
              cases z
              cases o2
              refine .inr ⟨_, u, rfl, ?_, fin u (by assumption)⟩
              rw [← e1]
              exact DGet.t hl (S1.sub.tp _ _ hkb)
            · cases hd
        · cases hd
    · cases hd
/-- the data of what stands at a place, known for now -/
theorem Own.seen {K : PySem.W.Frag} {F H : Hp} {v : V} {m : M} {d : D} {l : List Addr} (o : Own K F H v m l) (s : Sub F H) (fr : ∀ a ∈ l, F a = none) (hd : m.toD = some d) : ∃ G, Rp K G v d ∧ Sub F G ∧ Sub G H := ⟨ov H F l, o.frozen fr hd, Sub.ov fr, s.of_ov⟩
def peekL (g : D → D → Option D) : M → D → Option D := fun m y => m.toD.bind fun d => g d y
theorem opl_of {K : PySem.W.Frag} {σ : L2.St} {H : Hp} {r : R2} {g : D → D → Option D} {Q : VK} (h : OpP K r g) (t : tE K W bv (opP i π gb (peekL g)) σ H Q) : tOp r (tPl K i π) (tQ K bv (rD K) gb) σ H Q := by
  obtain ⟨e, F, fp, S, q⟩ := t
  obtain ⟨m, y, d, hp, hy, hd, q⟩ := opP_some q
  obtain ⟨v, v', l0, h1, h2, h3, _⟩ := S.at hp
  refine ⟨v, v', h1, h2, e, F, fp, S, y, hy, fun w F1 H1 s1 S1 r1 => ?_⟩
  obtain ⟨_, l, o1, lin, _⟩ := S.still hp h1 h2 s1 S1
  obtain ⟨d1, k1, k2⟩ := Option.bind_eq_some_iff.mp hd
  obtain ⟨G, g1, g2, g3⟩ := o1.seen S1.sub (fun a ha => S1.fr i a (lin a ha)) k1
  obtain ⟨fl, k⟩ := h G H1 v' w d1 y d Q g3 g1 (Rp.mono g2 r1) k2
  exact k (q (flatOf d) F1 H1 fp _ s1.loud S1 ⟨rfl, Rp.flat fl⟩)
theorem de_eqPl {k : Nat} (hr : Room k X.A) (ho : PL X o i π) (hb : DQ X bv b gb) : DE X W bv (.Compare o [.Eq] [b] pos) (opP i π gb (peekL eqD)) :=
  pe_imp (pe_cmpR (OpR.or op_eq (op_eqD hr.units)) ho hb (by first | exact nomark _ | rfl)) fun σ H Q t => opl_of op_eqP t
theorem de_nePl {k : Nat} (hr : Room k X.A) (ho : PL X o i π) (hb : DQ X bv b gb) : DE X W bv (.Compare o [.NotEq] [b] pos) (opP i π gb (peekL neD)) :=
  pe_imp (pe_cmpR (OpR.or op_ne (op_neD hr.units)) ho hb (by first | exact nomark _ | rfl)) fun σ H Q t => opl_of op_neP t
theorem dt_eqPl {k : Nat} (hr : Room k X.A) (ho : PL X o i π) (hb : DQ X bv b gb) : DT X W bv (.Compare o [.Eq] [b] pos) (tst (opP i π gb (peekL eqD))) :=
  pt_imp (pt_cmpR (OpR.or op_eq (op_eqD hr.units)) ho hb (by first | exact nomark _ | rfl)) fun σ H Q t => opl_of op_eqP (tst_of t)
theorem dt_nePl {k : Nat} (hr : Room k X.A) (ho : PL X o i π) (hb : DQ X bv b gb) : DT X W bv (.Compare o [.NotEq] [b] pos) (tst (opP i π gb (peekL neD))) :=
  pt_imp (pt_cmpR (OpR.or op_ne (op_neD hr.units)) ho hb (by first | exact nomark _ | rfl)) fun σ H Q t => opl_of op_neP (tst_of t)
/-- e in xs: the place is asked behind e -/
def opR {α : Type} (i : Nat) (π : Way) (f : EM D) (k : D → D → Option α) : EM α := bnd f fun y e => match (pgM i π e).bind M.toD with
  | some d => lif (k y d) e
  | none => .no
theorem opr_of {K : PySem.W.Frag} {σ : L2.St} {H : Hp} {r : R2} {g : D → D → Option D} {Q : VK} (h : OpP K r g) (t : tE K W bv (opR i π fa g) σ H Q) : tOp r (tE K W bv fa) (tPl K i π) σ H Q := by
  refine tG.mono (tG.bnd (r := rD K) t) fun y H2 ⟨d2, e2, F2, fp2, S2, r2, q2⟩ => ?_
  unfold AtG at q2
  dsimp only at q2
  cases hm : (pgM i π e2).bind M.toD with
  | none => rw [hm] at q2; exact q2.elim
  | some d =>
    rw [hm] at q2
    dsimp only at q2
    cases hg : g d2 d with
    | none => rw [hg] at q2; exact q2.elim
    | some z =>
      rw [hg] at q2
      obtain ⟨m, hp, hd⟩ := Option.bind_eq_some_iff.mp hm
      obtain ⟨v, v', l, h1, h2, h3, h4, _⟩ := S2.at hp
      obtain ⟨G, g1, g2, g3⟩ := h3.seen S2.sub (fun a ha => S2.fr i a (h4 a ha)) hd
      obtain ⟨fl, k⟩ := h G H2 y v' d2 d z Q g3 (Rp.mono g2 r2) g1 hg
      exact ⟨v, v', h1, h2, k (q2 (flatOf z) F2 H2 fp2 _ (Stp.refl _ _ _) S2 ⟨rfl, Rp.flat fl⟩)⟩
theorem de_inPl {k : Nat} (hr : Room k X.A) (ha : DE X W bv a fa) (ho : PL X o i π) (hm : behindInMarks .In o = false := by first | exact nomark _ | rfl) : DE X W bv (.Compare a [.In] [o] pos) (opR i π fa inPD) :=
  pe_imp (pe_cmpR (OpR.or (or_in hr) (or_din hr false)) ha ho hm) fun σ H Q t => opr_of (opp_cases inL_P in_dP fun x y => by unfold inPD; split <;> first | exact .inr rfl | exact .inl rfl) t
theorem de_ninPl {k : Nat} (hr : Room k X.A) (ha : DE X W bv a fa) (ho : PL X o i π) (hm : behindInMarks .NotIn o = false := by first | exact nomark _ | rfl) : DE X W bv (.Compare a [.NotIn] [o] pos) (opR i π fa ninPD) :=
  pe_imp (pe_cmpR (OpR.or (or_nin hr) (or_din hr true)) ha ho hm) fun σ H Q t => opr_of (opp_cases ninL_P in_dP fun x y => by unfold ninPD; split <;> first | exact .inr rfl | exact .inl rfl) t
theorem dt_inPl {k : Nat} (hr : Room k X.A) (ha : DE X W bv a fa) (ho : PL X o i π) (hm : behindInMarks .In o = false := by first | exact nomark _ | rfl) : DT X W bv (.Compare a [.In] [o] pos) (tst (opR i π fa inPD)) :=
  pt_imp (pt_cmpR (OpR.or (or_in hr) (or_din hr false)) ha ho hm) fun σ H Q t => opr_of (opp_cases inL_P in_dP fun x y => by unfold inPD; split <;> first | exact .inr rfl | exact .inl rfl) (tst_of t)
theorem dt_ninPl {k : Nat} (hr : Room k X.A) (ha : DE X W bv a fa) (ho : PL X o i π) (hm : behindInMarks .NotIn o = false := by first | exact nomark _ | rfl) : DT X W bv (.Compare a [.NotIn] [o] pos) (tst (opR i π fa ninPD)) :=
  pt_imp (pt_cmpR (OpR.or (or_nin hr) (or_din hr true)) ha ho hm) fun σ H Q t => opr_of (opp_cases ninL_P in_dP fun x y => by unfold ninPD; split <;> first | exact .inr rfl | exact .inl rfl) (tst_of t)
/-- len(xs) -/
def pk0 {α : Type} (i : Nat) (π : Way) (k : M → Option α) : EM α := fun e => match pgM i π e with
  | some m => lif (k m) e
  | none => .no
theorem pk0_some {α τ : Type} {K : PySem.W.Frag} {R : RG τ α} {e : Env} {σ : L2.St} {F H : Hp} {fp : Nat → List Addr} {k : M → Option α} {Q : τ → Hp → Prop} (q : AtG K W bv R (pk0 i π k) e σ F H fp Q) : ∃ m d, pgM i π e = some m ∧ k m = some d ∧ AtG K W bv R (FD.ret d) e σ F H fp Q := by
  unfold AtG pk0 at q
  cases h1 : pgM i π e with
  | none => rw [h1] at q; exact q.elim
  | some m =>
    rw [h1] at q
    dsimp only at q
    cases h3 : k m with
    | none => rw [h3] at q; exact q.elim
    | some d => rw [h3] at q; exact ⟨m, d, rfl, h3, q⟩
def lenM (m : M) : Option D := match m with
  | .ls ms => some (.int ms.length)
  | .dk kms => some (.int kms.length)
  | .dt kms => some (.int kms.length)
  | .im d => lenD [d]
  | _ => none
theorem de_lenPl (hm : X.mg "len" = none) (ho : PL X o i π) (hg : Gl X "len" := by rfl) (he : starEach [o] X.env = (false, eval o X.env) :: starEach [] X.env := by rfl) : DE X W bv (.Call (.Name "len" p) [o] [] pos) (pk0 i π lenM) :=
  pe_imp (pe_callB (CallR.or call_len_seq (CallR.or call_len_str call_lenR)) hg hm (by rfl) (pa_cons ho pa_nil he) (by decide) (by decide) he rfl) fun σ H Q ⟨e, F, fp, S, q⟩ => by
    obtain ⟨m, d, hp, hd, q⟩ := pk0_some q
    obtain ⟨v, v', l, h1, h2, h3, _⟩ := S.at hp
    refine ⟨v, v', h1, h2, ?_⟩
    have fin : ∀ n : Int, d = .int n → Q (.int n) H := fun n h => by subst h; exact AtG.here (r := rD X.K) S q (.int n)
    cases h3 with
    | ls h r => exact .inl ⟨_, _, rfl, .inl (SqL.of h), fin _ (by rw [r.length]; exact (Option.some.inj hd).symm)⟩
    | dk h hn r =>
      have hl := congrArg List.length hn
      simp only [List.length_map] at hl
      exact .inr (.inr ⟨_, rfl, .inl ⟨_, .inl h, fin _ (by rw [hl]; exact (Option.some.inj hd).symm)⟩⟩)
    | dt h hn r =>
      have hl := congrArg List.length hn
      simp only [List.length_map] at hl
      exact .inr (.inr ⟨_, rfl, .inr ⟨_, .inl h, fin _ (by rw [hl]; exact (Option.some.inj hd).symm)⟩⟩)
    | im rw' =>
      have hd : lenD [_] = some d := hd
      cases rw' with
      | lst h rl => exact .inl ⟨_, _, rfl, .inl (S.sub.l h), fin _ (by rw [rl.length]; exact (Option.some.inj hd).symm)⟩
      | tup h rl => exact .inl ⟨_, _, rfl, .inr (S.sub.t h), fin _ (by rw [rl.length]; exact (Option.some.inj hd).symm)⟩
      | str z' =>
        simp only [lenD] at hd
        split at hd
        · rename_i hz
          exact .inr (.inl ⟨z', rfl, few_le hz, fin _ (Option.some.inj hd).symm⟩)
        · cases hd
      | dK h k rl =>
        have hl := congrArg List.length k
        simp only [List.length_map] at hl
        refine .inr (.inr ⟨_, rfl, .inl ⟨_, S.sub.rd _ _ h, fin _ ?_⟩⟩)
        have hz := Option.some.inj hd
        rw [List.length_map] at hz
        rw [hl, hz]
      | dT h k rl =>
        have hl := congrArg List.length k
        simp only [List.length_map] at hl
        refine .inr (.inr ⟨_, rfl, .inr ⟨_, S.sub.rd _ _ h, fin _ ?_⟩⟩)
        have hz := Option.some.inj hd
        rw [List.length_map] at hz
        rw [hl, hz]
      | _ => cases hd
    | ob _ _ _ _ => cases hd
    | gone => cases hd
end
end FD

/-! FD: what is changed at places. -/
namespace FD
open PySem L2
/-- a change of what stands at a place, by quiet data -/
def chP (i : Nat) (π : Way) (g : Env → Option D) (k : M → D → Option M) : EM Flow := fun e => match pgM i π e with
  | some m => match g e with
    | some y => match k m y with
      | some n => .ok .nxt (psM i π n e)
      | none => .no
    | none => .no
  | none => .no
theorem chP_some {K : PySem.W.Frag} {W : WX} {bv : Nat → Option V} {e : Env} {σ : L2.St} {F H : Hp} {fp : Nat → List Addr} {i : Nat} {π : Way} {g : Env → Option D} {k : M → D → Option M} {D : Ends} (q : AtS K W bv (chP i π g k) e σ F H fp D) :
    ∃ m y n, pgM i π e = some m ∧ g e = some y ∧ k m y = some n ∧ ∀ F' H' fp', Stp F H (Pf fp) F' H' (Pf fp') → SS K bv (psM i π n e) σ F' H' fp' → D.nx σ H' := by
  unfold AtS chP at q
  cases h1 : pgM i π e with
  | none => rw [h1] at q; exact q.elim
  | some m =>
    rw [h1] at q
    cases h2 : g e with
    | none => simp only [h2] at q; exact q.elim
    | some y =>
      simp only [h2] at q
      cases h3 : k m y with
      | none => simp only [h3] at q; exact q.elim
      | some n => simp only [h3] at q; exact ⟨m, y, n, rfl, rfl, h3, fun F' H' fp' s S => q σ F' H' fp' s S⟩
def appK (m : M) (d : D) : Option M := match m with
  | .ls ms => if few (ms.length + 1) then some (.ls (ms ++ [.im d])) else none
  | _ => none
section
variable {X : Cx} {W : WX} {bv : Nat → Option V} {pos p px apos : Pos} {a b o : Expr} {es : List Expr} {fa : EM D} {ga gb gc : Env → Option D} {gs : Env → Option (List D)} {x : Str} {i : Nat} {π : Way}
theorem ds_appendPl (ho : PL X o i π) (hq : DQ X bv a ga)
    (hbase : attributeBase o "append" X.env (eval o X.env) = eval o X.env := by rfl)
    (hfew : ((backTo p (starEach [a] X.env)).all (fun x => !x.1) && (backToKw p (keywordEach [] X.env)).all (fun x => x.1.isSome) && decide (([a] : List Expr).length + ([] : List Keyword).length + (if ([] : List Keyword).isEmpty then 0 else 1) < 30)) = true := by rfl)
    (hline : (apos.endLine == p.line) = true := by rfl) (hs : starEach [a] X.env = (false, eval a X.env) :: starEach [] X.env := by rfl) (hpl : (backTo p (starEach [] X.env)).any (·.1) = false := by rfl)
    (hsw : swapsWith (.Call (.Attribute o "append" apos) [a] [] p) none pos.line X.env = pure false := by rfl) :
    DS X W bv (.Expr (.Call (.Attribute o "append" apos) [a] [] p) pos) (chP i π ga appK) :=
  ps_imp (ps_expr (pe_bm PySem.F.plainAttrs_list PySem.F.slot_list_append PySem.F.type_list_append mt_append ho (pa_cons hq pa_nil hs) hbase hfew hline hs hpl) hsw) fun D σ H ⟨e, F, fp, S, q⟩ => by
    obtain ⟨m, y, n, hp, hy, hn, q⟩ := chP_some q
    unfold appK at hn
    split at hn
    rotate_left
    · cases hn
    rename_i ms
    split at hn
    rotate_left
    · cases hn
    rename_i hz
    cases hn
    obtain ⟨v, v', l0, h1, h2, h3, _⟩ := S.at hp
    cases h3 with
    | ls hl ro =>
      refine ⟨v, _, h1, h2, .inl ⟨rfl, _, SqL.of hl⟩, e, F, fp, S, y, hy, fun w F1 H1 s1 S1 r1 => ?_⟩
      obtain ⟨p1, _⟩ := S.still hp h1 h2 s1 S1
      obtain ⟨u, u', l, g1, g2, g3, g4, g5, g6⟩ := S1.chg hp
      rw [h1] at g1
      cases g1
      have eu := PathV.uniq p1 g2
      subst eu
      cases g3 with
      | ls gl gr =>
        obtain ⟨fp', S2, s2⟩ := g6 _ _ (.lst _) (.ls (ms ++ [.im y])) rfl (.ls upd_same ((gr.snoc r1).other (List.nodup_cons.mp g5).1))
        have hlen := gr.length
        have hz' := few_le hz
        exact ⟨_, _, _, rfl, rfl, gl, by omega, q F1 _ fp' (s1.loud.trans s2) S2⟩
/-! ### xs.remove(k) of numbers -/
def intsM : List M → Option (List Int)
  | [] => some []
  | .im (.int i) :: ms => (intsM ms).map (i :: ·)
  | _ => none
theorem intsM_own {K : PySem.W.Frag} {F H : Hp} : ∀ {vs : List V} {ms : List M} {fpl : List Addr} {ns : List Int}, OwnL K F H vs ms fpl → intsM ms = some ns → vs = ns.map V.int ∧ ms = ns.map (fun i => M.im (.int i)) ∧ fpl = []
  | _, [], _, _, .nil, h => by cases h; exact ⟨rfl, rfl, rfl⟩
  | _, .im (.int i) :: ms, _, ns, .cons o t, h => by
    obtain ⟨ns', h1, rfl⟩ := Option.map_eq_some_iff.mp h
    obtain ⟨e1, e2, e3⟩ := intsM_own t h1
    cases o with
    | im r =>
      cases r
      subst e3
      rw [e1, e2]
      exact ⟨rfl, rfl, rfl⟩
theorem intsM_of (ns : List Int) : intsM (ns.map fun i => M.im (.int i)) = some ns := by
  induction ns with
  | nil => rfl
  | cons i ns ih =>
    show (intsM (ns.map fun i => M.im (.int i))).map (i :: ·) = _
    rw [ih]
    rfl
theorem own_ints {K : PySem.W.Frag} {F H : Hp} (ns : List Int) : OwnL K F H (ns.map V.int) (ns.map fun i => M.im (.int i)) [] := by
  have := OwnL.ims (K := K) (F := F) (H := H) (rpl_ints ns)
  rwa [List.map_map] at this
def remK (m : M) (d : D) : Option M := match m, d with
  | .ls ms, .int k => match intsM ms with
    | some ns => if k ∈ ns then some (.ls ((ns.erase k).map fun i => .im (.int i))) else none
    | none => none
  | _, _ => none
theorem erase_at {ns : List Int} {k : Int} (h : k ∈ ns) : ∃ j : Nat, ns[j]? = some k ∧ (∀ m : Nat, m < j → ns[m]? ≠ some k) ∧ ns.eraseIdx j = ns.erase k := by
  induction ns with
  | nil => cases h
  | cons a ns ih =>
    by_cases e : a = k
    · subst e
      exact ⟨0, rfl, fun m hm => absurd hm (Nat.not_lt_zero _), by simp⟩
    · have h' : k ∈ ns := (List.mem_cons.mp h).resolve_left fun z => e z.symm
      obtain ⟨j, h1, h2, h3⟩ := ih h'
      refine ⟨j + 1, by simpa using h1, fun m hm => ?_, ?_⟩
      · cases m with
        | zero => simpa using e
        | succ m => simpa using h2 m (by omega)
      · rw [List.eraseIdx_cons_succ, h3, List.erase_cons, if_neg (by simpa using e)]
theorem ds_removePl (ho : PL X o i π) (hq : DQ X bv a ga)
    (hbase : attributeBase o "remove" X.env (eval o X.env) = eval o X.env := by rfl)
    (hfew : ((backTo p (starEach [a] X.env)).all (fun x => !x.1) && (backToKw p (keywordEach [] X.env)).all (fun x => x.1.isSome) && decide (([a] : List Expr).length + ([] : List Keyword).length + (if ([] : List Keyword).isEmpty then 0 else 1) < 30)) = true := by rfl)
    (hline : (apos.endLine == p.line) = true := by rfl) (hs : starEach [a] X.env = (false, eval a X.env) :: starEach [] X.env := by rfl) (hpl : (backTo p (starEach [] X.env)).any (·.1) = false := by rfl)
    (hsw : swapsWith (.Call (.Attribute o "remove" apos) [a] [] p) none pos.line X.env = pure false := by rfl) :
    DS X W bv (.Expr (.Call (.Attribute o "remove" apos) [a] [] p) pos) (chP i π ga remK) :=
  ps_imp (ps_expr (pe_bm PySem.F.plainAttrs_list PySem.F.slot_list_remove PySem.F.type_list_remove mt_remove ho (pa_cons hq pa_nil hs) hbase hfew hline hs hpl) hsw) fun D σ H ⟨e, F, fp, S, q⟩ => by
    obtain ⟨m, y, n, hp, hy, hn, q⟩ := chP_some q
    unfold remK at hn
    split at hn
    rotate_left
    · cases hn
    rename_i ms k
    split at hn
    rotate_left
    · cases hn
    rename_i ns hns
    split at hn
    rotate_left
    · cases hn
    rename_i hk
    cases hn
    obtain ⟨v, v', l0, h1, h2, h3, _⟩ := S.at hp
    cases h3 with
    | ls hl ro =>
      refine ⟨v, _, h1, h2, .inl ⟨rfl, _, SqL.of hl⟩, e, F, fp, S, _, hy, fun w F1 H1 s1 S1 r1 => ?_⟩
      obtain ⟨p1, _⟩ := S.still hp h1 h2 s1 S1
      obtain ⟨u, u', l, g1, g2, g3, g4, g5, g6⟩ := S1.chg hp
      rw [h1] at g1
      cases g1
      have eu := PathV.uniq p1 g2
      subst eu
      cases r1
      cases g3 with
      | ls gl gr =>
        obtain ⟨e1, e2, e3⟩ := intsM_own gr hns
        subst e1 e3
        obtain ⟨j, j1, j2, j3⟩ := erase_at hk
        obtain ⟨fp', S2, s2⟩ := g6 _ _ (.lst ((ns.erase k).map V.int)) (.ls ((ns.erase k).map fun i => .im (.int i))) rfl (.ls upd_same (own_ints _))
        refine ⟨_, ns, k, j, rfl, rfl, gl, j1, j2, ?_⟩
        rw [j3]
        exact q F1 _ fp' (s1.loud.trans s2) S2
/-! ### xs.index(k) of numbers -/
def indexK (m : M) (d : D) : Option D := match m, d with
  | .ls ms, .int k => match intsM ms with
    | some ns => if k ∈ ns then some (.int (ns.idxOf k : Nat)) else none
    | none => none
  | _, _ => none
theorem index_at {ns : List Int} {k : Int} (h : k ∈ ns) : ns[ns.idxOf k]? = some k ∧ ∀ m : Nat, m < ns.idxOf k → ns[m]? ≠ some k := by
  induction ns with
  | nil => cases h
  | cons a ns ih =>
    rw [List.idxOf_cons]
    by_cases e : a = k
    · subst e
      simp
    · have h' : k ∈ ns := (List.mem_cons.mp h).resolve_left fun z => e z.symm
      obtain ⟨h1, h2⟩ := ih h'
      have e' : (a == k) = false := by simpa using e
      rw [e']
      refine ⟨by simpa using h1, fun m hm => ?_⟩
      cases m with
      | zero => simpa using e
      | succ m => simpa using h2 m (by simpa using hm)
theorem de_indexPl (ho : PL X o i π) (hq : DQ X bv a ga)
    (hbase : attributeBase o "index" X.env (eval o X.env) = eval o X.env := by rfl)
    (hfew : ((backTo p (starEach [a] X.env)).all (fun x => !x.1) && (backToKw p (keywordEach [] X.env)).all (fun x => x.1.isSome) && decide (([a] : List Expr).length + ([] : List Keyword).length + (if ([] : List Keyword).isEmpty then 0 else 1) < 30)) = true := by rfl)
    (hline : (apos.endLine == p.line) = true := by rfl) (hs : starEach [a] X.env = (false, eval a X.env) :: starEach [] X.env := by rfl) (hpl : (backTo p (starEach [] X.env)).any (·.1) = false := by rfl) :
    DE X W bv (.Call (.Attribute o "index" apos) [a] [] p) (opP i π ga indexK) :=
  pe_imp (pe_bm PySem.F.plainAttrs_list PySem.F.slot_list_index PySem.F.type_list_index mt_index ho (pa_cons hq pa_nil hs) hbase hfew hline hs hpl) fun σ H Q ⟨e, F, fp, S, q⟩ => by
    obtain ⟨m, y, d, hp, hy, hd, q⟩ := opP_some q
    unfold indexK at hd
    split at hd
    rotate_left
    · cases hd
    rename_i ms k
    split at hd
    rotate_left
    · cases hd
    rename_i ns hns
    split at hd
    rotate_left
    · cases hd
    rename_i hk
    cases hd
    obtain ⟨v, v', l0, h1, h2, h3, _⟩ := S.at hp
    cases h3 with
    | ls hl ro =>
      refine ⟨v, _, h1, h2, .inl ⟨rfl, _, SqL.of hl⟩, e, F, fp, S, _, hy, fun w F1 H1 s1 S1 r1 => ?_⟩
      obtain ⟨_, l, o1, _, _⟩ := S.still hp h1 h2 s1 S1
      cases r1
      cases o1 with
      | ls gl gr =>
        obtain ⟨e1, e2, e3⟩ := intsM_own gr hns
        subst e1
        obtain ⟨j1, j2⟩ := index_at hk
        have fl : ∀ l : List Int, (l.map V.int).all flatV = true := fun l => by
          rw [List.all_eq_true]
          intro z hz
          obtain ⟨w, _, rfl⟩ := List.mem_map.mp hz
          rfl
        refine ⟨_, _, _, ns.idxOf k, .int k, rfl, rfl, SqL.of gl, rfl, fl ns, by rw [List.getElem?_map, j1]; rfl, by simp [eqV], fun mm z' hm hz => ?_, q _ F1 H1 fp _ s1.loud S1 ⟨rfl, .int _⟩⟩
        rw [List.getElem?_map] at hz
        obtain ⟨w, hw, rfl⟩ := Option.map_eq_some_iff.mp hz
        have : w ≠ k := fun z => j2 mm hm (by rw [hw, z])
        simpa [eqV] using this
end
end FD

/-! FD: methods: the receiver is lent. -/
namespace FD
open PySem L2
section
variable {X : Cx} {k : Nat} {f C : Addr} {fd : FuncData} {ps : List Str} {sp : Sp} {E : XK} {x m : Str} {p pos apos : Pos} {e o : Expr} {es : List Expr} {t : TA} {ta : TE}
theorem pe_methG {pl : Sem Bool} (he : PE X o ta) (c : Cls X.K C) (hm : Meth X.K C m f) (G : FnG X.prog X.w X.K X.mg X.base k f fd ps sp) (hgd : X.A.guards = some []) (hr : Room k X.A) (hb : Binds X.K fd ps []) (ha : PA X (e :: es) t)
    (hst : starEach (e :: es) X.env = (false, eval e X.env) :: starEach es X.env) (hpl : (backTo pos (starEach es X.env)).any (·.1) = false)
    (ht : eval (.Call (.Attribute o m apos) (e :: es) [] pos) X.env = (do let ov ← eval o X.env; standAt apos.atName; let (f, first) ← holding [ov] (getMethod ov m pl); callWith pos f first (backTo pos (starEach (e :: es) X.env)) (backToKw pos (keywordEach [] X.env)))) :
    PE X (.Call (.Attribute o m apos) (e :: es) [] pos) (fun σ H Q => ta σ H fun x H1 => ∃ a dx fs, x = .ref a ∧ H1 a = some (.ins C dx fs) ∧ fs.lookup m = none ∧ t σ H1 fun vs H2 => sp (x :: vs) H2 Q E) := by
  refine ⟨fun pins s σ H Q I h => PySem.W.methodCall_KW (pl := pl) (thn (he.run pins s σ H _ I h) fun u s1 ⟨y, H1, I1, ry, a, dx, fs, ey, ea, l, q⟩ => ?_) ht⟩
  subst ey
  obtain rfl : u = Value.ref a := ry
  refine getmeth_ok I1 ea c hm l (PySem.W.callWith_K (first := [.ref a]) (h₀ := X.base) I.ok.mod.kin hm.kp (thn (ha.run pos pins s1 σ H1 _ I1 q) fun us s2 ⟨vs, H2, I2, r, q2⟩ => ⟨I2.kIn, ?_⟩) hst hpl)
  have r' : Vals (V.ref a :: vs) (Value.ref a :: us) := .cons rfl r
  have bi := hb s2 (Value.ref a :: us) I2.kIn (by rw [List.append_nil, ← r'.length]; exact G.len _ _ _ _ q2)
  rw [List.append_nil] at bi
  exact wpAny_call (goG (E := E) G hgd hr I2 bi r' q2)
theorem pe_meth0G {pl : Sem Bool} (he : PE X o ta) (c : Cls X.K C) (hm : Meth X.K C m f) (G : FnG X.prog X.w X.K X.mg X.base k f fd ps sp) (hgd : X.A.guards = some []) (hr : Room k X.A) (hb : Binds X.K fd ps [])
    (ht : eval (.Call (.Attribute o m apos) [] [] pos) X.env = (do let ov ← eval o X.env; standAt apos.atName; let (f, first) ← holding [ov] (getMethod ov m pl); callWith pos f first (backTo pos (starEach [] X.env)) (backToKw pos (keywordEach [] X.env)))) :
    PE X (.Call (.Attribute o m apos) [] [] pos) (fun σ H Q => ta σ H fun x H1 => ∃ a dx fs, x = .ref a ∧ H1 a = some (.ins C dx fs) ∧ fs.lookup m = none ∧ sp [x] H1 Q E) := by
  refine ⟨fun pins s σ H Q I h => PySem.W.methodCall_KW (pl := pl) (thn (he.run pins s σ H _ I h) fun u s1 ⟨y, H1, I1, ry, a, dx, fs, ey, ea, l, q⟩ => ?_) ht⟩
  subst ey
  obtain rfl : u = Value.ref a := ry
  refine getmeth_ok I1 ea c hm l (PySem.W.callWith_K0 (first := [.ref a]) I1.kIn hm.kp ?_)
  have r' : Vals [V.ref a] [Value.ref a] := .cons rfl .nil
  have bi := hb s1 [Value.ref a] I1.kIn (by rw [List.append_nil, ← r'.length]; exact G.len _ _ _ _ q)
  rw [List.append_nil] at bi
  exact wpAny_call (goG (E := E) G hgd hr I1 bi r' q)
end
theorem lookup_none {α β : Type} {f : Str} : ∀ {fs : List (Str × α)} {gs : List (Str × β)}, fs.map (·.1) = gs.map (·.1) → gs.lookup f = none → fs.lookup f = none
  | [], _, _, _ => rfl
  | _ :: _, [], h, _ => by simp at h
  | (g, x) :: fs, (g', y) :: gs, h, q => by
    simp only [List.map_cons, List.cons.injEq] at h
    obtain ⟨rfl, h⟩ := h
    rw [List.lookup_cons] at q ⊢
    cases e : f == g with
    | true => rw [e] at q; cases q
    | false => rw [e] at q; exact lookup_none h q
/-! ### a call that lends a place, the other arguments data -/
section
variable {K : PySem.W.Frag} {W : WX} {bv : Nat → Option V} {e : Env} {σ : L2.St} {F H : Hp} {fp : Nat → List Addr} {i : Nat} {π : Way}
def lendF (Fs : List M → FOut) (i : Nat) (π : Way) (m : M) (ds : List D) : EM M := fun e => match Fs (m :: ds.map .im) with
  | .ok r (m' :: ms) => if ms.length = ds.length then .ok r (psM i π m' e) else .no
  | _ => .no
def fp1 (l : List Addr) : Nat → List Addr := fun j => if j = 0 then l else []
theorem lend_at {Fs : List M → FOut} {m' : M} {v v' : V} {vs : List V} {ds : List D} {Q : VK} (S : SS K bv e σ F H fp) (h : pgM i π e = some m') (hv : σ[i]? = some (some v)) (hp : PathV K H π v v') (r : RpL K F vs ds) (q : AtG K W bv (rM K) (lendF Fs i π m' ds) e σ F H fp Q) : spF K Fs (v' :: vs) H Q E0 := by
  obtain ⟨m, he, hg⟩ := pgM_some h
  obtain ⟨w, w', l, rr, h1, h2, h3, h4, h5⟩ := S.focus he hg
  rw [hv] at h1
  cases h1
  have := PathV.uniq hp h2
  subst this
  have lin : ∀ a ∈ l, a ∈ fp i := fun a ha => h4.mem_iff.mpr (List.mem_append_left _ ha)
  have rin : ∀ a ∈ rr, a ∈ fp i := fun a ha => h4.mem_iff.mpr (List.mem_append_right _ ha)
  have ndl : (l ++ rr).Nodup := h4.nodup_iff.mp (S.nd i)
  have lr : ∀ a ∈ l, a ∉ rr := fun a hl ha => (List.nodup_append.mp ndl).2.2 a hl a ha rfl
  have inP : ∀ a, Pf (fp1 l) a ↔ a ∈ l := fun a => ⟨fun ⟨j, hj⟩ => (by
    unfold fp1 at hj
    split at hj
    · exact hj
    · cases hj), fun ha => ⟨0, ha⟩⟩
  have rl := r.length
  refine ⟨m' :: ds.map .im, F, fp1 l, ⟨S.sub, fun j n hj => ?_, fun j a hj => ?_, fun j => ?_, fun j k a g1 g2 => ?_, fun j a hj => ?_, fun _ _ z => (by cases z), by simp [rl]⟩, ?_⟩
  · cases j with
    | zero => simp at hj; subst hj; exact ⟨v', rfl, h3⟩
    | succ j =>
      simp at hj
      obtain ⟨d, hd, rfl⟩ := hj
      obtain ⟨u, hu, ru⟩ := r.get hd
      exact ⟨u, by simpa using hu, .im ru⟩
  · unfold fp1 at hj
    split at hj
    · rename_i z; subst z; exact ⟨m', rfl⟩
    · cases hj
  · unfold fp1
    split
    · exact (List.nodup_append.mp ndl).1
    · exact List.nodup_nil
  · unfold fp1 at g1 g2
    split at g1
    · split at g2
      · omega
      · cases g2
    · cases g1
  · exact S.fr i a (lin a ((inP a).mp ⟨j, hj⟩))
  · unfold AtG lendF at q
    cases hF : Fs (m' :: ds.map .im) with
    | no => rw [hF] at q; exact q.elim
    | ex C fs ms' => rw [hF] at q; exact q.elim
    | ok res ms' =>
      rw [hF] at q
      cases ms' with
      | nil => exact q.elim
      | cons m'' ms =>
        dsimp only at q ⊢
        by_cases hl : ms.length = ds.length
        · rw [if_pos hl] at q
          intro u F' H' fp' P' s' S' ⟨fpr, hP, o, nd, dj, frr⟩
          obtain ⟨w, hw, o2⟩ := S'.own 0 m'' rfl
          simp at hw
          subst hw
          have kr : ∀ a ∈ rr, ∀ ob, H a = some ob → H' a = some ob := fun a ha ob hob => s'.keep a ob hob (fun z => lr a ((inP a).mp z) ha) (.inl (S.fr i a (rin a ha)))
          have kj : ∀ j, j ≠ i → ∀ a ∈ fp j, ∀ ob, H a = some ob → H' a = some ob := fun j n a ha ob hob => s'.keep a ob hob (fun z => n (S.dj j i a ha (lin a ((inP a).mp z)))) (.inl (S.fr j a ha))
          have out : ∀ a, a ∉ l → (∃ j, a ∈ fp j) → F' a = none := fun a nl ⟨j, hj⟩ => by
            cases z : F' a with
            | none => rfl
            | some ob =>
              rcases s'.newF a (by rw [z]; simp) with y | y | y
              · exact absurd (S.fr j a hj) y
              · exact absurd ((inP a).mp y) nl
              · obtain ⟨ob', q'⟩ := S.live hj
                obtain ⟨ws, e1⟩ := y _ q'
                rw [e1] at q'
                exact absurd q' (S.ntup hj ws)
          have offP' : ∀ a, a ∉ l → (∃ j, a ∈ fp j) → ¬ P' a := fun a nl ⟨j, hj⟩ z => by
            rcases s'.newP a z with y | y
            · exact nl ((inP a).mp y)
            · obtain ⟨ob', q'⟩ := S.live hj
              rw [q'] at y; cases y
          have inP' : ∀ a ∈ fp' 0, P' a := fun a ha => hP a (.inl ⟨0, ha⟩)
          obtain ⟨fpn, pn, Sn⟩ := h5 F' H' m'' (fp' 0) s'.ext S'.sub kr (fun a ha => out a (fun z => lr a z ha) ⟨i, rin a ha⟩) kj (fun j n a ha => out a (fun z => n (S.dj j i a ha (lin a z))) ⟨j, ha⟩) o2 (S'.nd 0) (fun a ha => S'.fr 0 a ha)
            (fun a ha z => offP' a (fun y => lr a y z) ⟨i, rin a z⟩ (inP' a ha)) (fun j n a ha z => offP' a (fun y => n (S.dj j i a ha (lin a y))) ⟨j, ha⟩ (inP' a z))
          have fromP : ∀ a, P' a → Pf fp a ∨ H a = none := fun a z => (s'.newP a z).imp (fun y => ⟨i, lin a ((inP a).mp y)⟩) id
          refine q u F' H' (FD.put fp i fpn) _ ⟨s'.ext, fun a ob hob np f => s'.keep a ob hob (fun z => np ⟨i, lin a ((inP a).mp z)⟩) f, s'.live, fun a ha => (s'.newF a ha).imp id (Or.imp (fun z => ⟨i, lin a ((inP a).mp z)⟩) id), fun a ha => ?_⟩ (by rw [psM_eq he]; exact Sn) ⟨fpr, rfl, o, nd, fun a ha ⟨j, hj⟩ => ?_, frr⟩
          · rcases ha with ⟨j, hj⟩ | ha
            · by_cases nj : j = i
              · subst nj
                rw [put_same] at hj
                rcases List.mem_append.mp (pn.mem_iff.mp hj) with z | z
                · exact fromP a (inP' a z)
                · exact .inl ⟨j, rin a z⟩
              · rw [put_ne nj] at hj
                exact .inl ⟨j, hj⟩
            · exact fromP a (hP a (.inr ha))
          · by_cases nj : j = i
            · subst nj
              rw [put_same] at hj
              rcases List.mem_append.mp (pn.mem_iff.mp hj) with z | z
              · exact dj a ha ⟨0, z⟩
              · exact offP' a (fun y => lr a y z) ⟨j, rin a z⟩ (hP a (.inr ha))
            · rw [put_ne nj] at hj
              exact offP' a (fun y => nj (S.dj j i a hj (lin a y))) ⟨j, hj⟩ (hP a (.inr ha))
        · rw [if_neg hl] at q
          exact q.elim
end
/-! ### the rules -/
def isOb (C m : Str) (n : M) : Bool := match n with
  | .ob C' fs => decide (C' = C) && (fs.lookup m).isNone
  | _ => false
section
variable (P : Program) (w : World) (K : PySem.W.Frag) (mg : Str → Option Value) (base : Heap)
def HasM (k : Nat) (C m : Str) (ps : List Str) (Fs : List M → FOut) : Prop := ∃ ca f fd, PySem.W.nsIn K mainGlobals C = some (some (.ref ca)) ∧ Cls K ca ∧ Meth K ca m f ∧ FnG P w K mg base k f fd ps (spF K Fs) ∧ Binds K fd ps []
end
theorem isOb_own {K : PySem.W.Frag} {F H : Hp} {C m : Str} {n : M} {v : V} {l : List Addr} {ca : Addr} (h : isOb C m n = true) (o : Own K F H v n l) (hC : PySem.W.nsIn K mainGlobals C = some (some (.ref ca))) : ∃ a dx fs, v = .ref a ∧ H a = some (.ins ca dx fs) ∧ fs.lookup m = none := by
  cases o with
  | ob hC' ha e r =>
    simp only [isOb, Bool.and_eq_true, decide_eq_true_eq, Option.isNone_iff_eq_none] at h
    obtain ⟨rfl, h⟩ := h
    rw [hC] at hC'
    cases hC'
    exact ⟨_, _, _, rfl, ha, lookup_none e h⟩
  | _ => cases h
/-- o.m(..) at a slot, whatever the arguments -/
def methS (i : Nat) (C m : Str) (Fs : List M → FOut) (fr : EM (List AR)) : EM M := fun e => match e[i]? with
  | some (some n) => if isOb C m n then bnd fr (fun as => callAt Fs (.b i :: as)) e else .no
  | _ => .no
/-- .. at any place, by quiet arguments -/
def methP (i : Nat) (π : Way) (C m : Str) (Fs : List M → FOut) (gs : Env → Option (List D)) : EM M := fun e => match pgM i π e with
  | some n => if isOb C m n then (match gs e with
    | some ds => lendF Fs i π n ds e
    | none => .no) else .no
  | none => .no
section
variable {X : Cx} {W : WX} {bv : Nat → Option V} {pos p px apos : Pos} {a b o : Expr} {es : List Expr} {fr : EM (List AR)} {gs : Env → Option (List D)} {x C m : Str} {i k : Nat} {π : Way} {ps : List Str} {Fs : List M → FOut} {pl : Sem Bool}
theorem dm_methS (i : Nat) (hh : HasM X.prog X.w X.K X.mg X.base k C m ps Fs) (hgd : X.A.guards = some []) (hr : Room k X.A) (ha : DR X W bv (a :: es) fr) (hN : X.N[i]? = some x := by rfl) (hv : Vis X.env.scope x := by first | exact Or.inl rfl | exact Or.inr (Or.inl rfl) | exact Or.inr (Or.inr rfl)) (hd : (x == ("__debug__" : Str)) = false := by decide) (hcd : (x == ("__classdict__" : Str)) = false := by decide)
    (hst : starEach (a :: es) X.env = (false, eval a X.env) :: starEach es X.env := by rfl) (hpl : (backTo pos (starEach es X.env)).any (·.1) = false := by rfl)
    (ht : eval (.Call (.Attribute (.Name x px) m apos) (a :: es) [] pos) X.env = (do let ov ← eval (.Name x px) X.env; standAt apos.atName; let (f, first) ← holding [ov] (getMethod ov m pl); callWith pos f first (backTo pos (starEach (a :: es) X.env)) (backToKw pos (keywordEach [] X.env))) := by rfl) :
    DM X W bv (.Call (.Attribute (.Name x px) m apos) (a :: es) [] pos) (methS i C m Fs fr) := by
  obtain ⟨ca, f, fd, hC, c, hm, G, hb⟩ := hh
  refine pe_imp (pe_methG (E := E0) (pe_var hN hv hd hcd) c hm G hgd hr hb ha hst hpl ht) fun σ H Q ⟨e, F, fp, S, q⟩ => ?_
  unfold AtG methS at q
  cases he : e[i]? with
  | none => rw [he] at q; exact q.elim
  | some n =>
    cases n with
    | none => rw [he] at q; exact q.elim
    | some n =>
      rw [he] at q
      dsimp only at q
      by_cases ho : isOb C m n = true
      · rw [if_pos ho] at q
        obtain ⟨v, hv', o⟩ := S.own i n he
        obtain ⟨a0, dx, fs, rfl, h1, h2⟩ := isOb_own ho o hC
        refine ⟨_, hv', a0, dx, fs, rfl, h1, h2, ?_⟩
        refine tG.mono (AtG.bnd' (r := rAR X.K σ) S q) fun vs H2 ⟨as, e2, F2, fp2, s2, S2, r2, q2⟩ => ?_
        exact call_at (as := .b i :: as) S2 ⟨hv', r2⟩ q2
      · rw [if_neg ho] at q
        exact q.elim
theorem dm_methP (hh : HasM X.prog X.w X.K X.mg X.base k C m ps Fs) (hgd : X.A.guards = some []) (hr : Room k X.A) (hp : PL X o i π) (ha : DQA X bv (a :: es) gs)
    (hst : starEach (a :: es) X.env = (false, eval a X.env) :: starEach es X.env := by rfl) (hpl : (backTo pos (starEach es X.env)).any (·.1) = false := by rfl)
    (ht : eval (.Call (.Attribute o m apos) (a :: es) [] pos) X.env = (do let ov ← eval o X.env; standAt apos.atName; let (f, first) ← holding [ov] (getMethod ov m pl); callWith pos f first (backTo pos (starEach (a :: es) X.env)) (backToKw pos (keywordEach [] X.env))) := by rfl) :
    DM X W bv (.Call (.Attribute o m apos) (a :: es) [] pos) (methP i π C m Fs gs) := by
  obtain ⟨ca, f, fd, hC, c, hm, G, hb⟩ := hh
  refine pe_imp (pe_methG (E := E0) hp c hm G hgd hr hb ha hst hpl ht) fun σ H Q ⟨e, F, fp, S, q⟩ => ?_
  unfold AtG methP at q
  cases he : pgM i π e with
  | none => rw [he] at q; exact q.elim
  | some n =>
    rw [he] at q
    dsimp only at q
    by_cases ho : isOb C m n = true
    · rw [if_pos ho] at q
      cases hg : gs e with
      | none => rw [hg] at q; exact q.elim
      | some ds =>
        rw [hg] at q
        dsimp only at q
        obtain ⟨v, v', l, k1, k2, k3, _⟩ := S.at he
        obtain ⟨a0, dx, fs, rfl, h1, h2⟩ := isOb_own ho k3 hC
        refine ⟨v, _, k1, k2, a0, dx, fs, rfl, h1, h2, e, F, fp, S, ds, hg, fun vs F2 H2 s2 S2 r2 => ?_⟩
        obtain ⟨p2, _⟩ := S.still he k1 k2 s2 S2
        exact lend_at S2 he k1 p2 r2 (AtG.back s2.loud q)
    · rw [if_neg ho] at q
      exact q.elim
theorem dm_methP0 (hh : HasM X.prog X.w X.K X.mg X.base k C m ps Fs) (hgd : X.A.guards = some []) (hr : Room k X.A) (hp : PL X o i π)
    (ht : eval (.Call (.Attribute o m apos) [] [] pos) X.env = (do let ov ← eval o X.env; standAt apos.atName; let (f, first) ← holding [ov] (getMethod ov m pl); callWith pos f first (backTo pos (starEach [] X.env)) (backToKw pos (keywordEach [] X.env))) := by rfl) :
    DM X W bv (.Call (.Attribute o m apos) [] [] pos) (methP i π C m Fs qN) := by
  obtain ⟨ca, f, fd, hC, c, hm, G, hb⟩ := hh
  refine pe_imp (pe_meth0G (E := E0) hp c hm G hgd hr hb ht) fun σ H Q ⟨e, F, fp, S, q⟩ => ?_
  unfold AtG methP at q
  cases he : pgM i π e with
  | none => rw [he] at q; exact q.elim
  | some n =>
    rw [he] at q
    dsimp only at q
    by_cases ho : isOb C m n = true
    · rw [if_pos ho] at q
      obtain ⟨v, v', l, k1, k2, k3, _⟩ := S.at he
      obtain ⟨a0, dx, fs, rfl, h1, h2⟩ := isOb_own ho k3 hC
      exact ⟨v, _, k1, k2, a0, dx, fs, rfl, h1, h2, lend_at S he k1 k2 .nil q⟩
    · rw [if_neg ho] at q
      exact q.elim
end
end FD

/-! FD: things handed over; objects made; fields stored. -/
namespace FD
open PySem L2
def rMs (K : PySem.W.Frag) : RG (List V) (List M) := fun F H fp P vs ms => ∃ fpr : List Addr, P = (fun a => Pf fp a ∨ a ∈ fpr) ∧ OwnL K F H vs ms fpr ∧ fpr.Nodup ∧ (∀ a ∈ fpr, ¬ Pf fp a) ∧ ∀ a ∈ fpr, F a = none
abbrev DV (X : Cx) (W : WX) (bv : Nat → Option V) (es : List Expr) (f : EM (List M)) : Prop := PA X es (tG X.K W bv (rMs X.K) f)
section
variable {K : PySem.W.Frag} {F H : Hp}
/-- owned things as arguments -/
theorem OwnL.ss : ∀ {vs : List V} {ms : List M} {fq : List Addr}, OwnL K F H vs ms fq → fq.Nodup → (∀ a ∈ fq, F a = none) → Sub F H → ∃ fps, SS K bv0 (ms.map some) (vs.map some) F H fps ∧ ∀ a, Pf fps a ↔ a ∈ fq
  | _, _, _, .nil, _, _, s => ⟨fun _ => [], ⟨s, (fun i m h => by simp at h), (fun i a h => by cases h), (fun _ => List.nodup_nil), (fun _ _ _ h => by cases h), (fun _ _ h => by cases h), (fun _ _ h => by cases h), rfl⟩, fun a => ⟨(fun ⟨_, h⟩ => by cases h), (fun h => by cases h)⟩⟩
  | _, _, _, .cons (fp := l) (fq := r) o t, nd, fr, s => by
    obtain ⟨n1, n2, n3⟩ := List.nodup_append.mp nd
    obtain ⟨fps, S, hP⟩ := OwnL.ss t n2 (fun a ha => fr a (List.mem_append_right _ ha)) s
    let g : Nat → List Addr := fun j => match j with | 0 => l | j + 1 => fps j
    refine ⟨g, ⟨s, fun j m h => ?_, fun j a h => ?_, fun j => ?_, fun j k a h1 h2 => ?_, fun j a h => ?_, (fun _ _ h => by cases h), by have := S.len; simp at this ⊢; exact this⟩, fun a => ⟨fun ⟨j, h⟩ => ?_, fun h => ?_⟩⟩
    · cases j with
      | zero => simp at h; subst h; exact ⟨_, rfl, o⟩
      | succ j =>
        obtain ⟨v, h1, h2⟩ := S.own j m (by simpa using h)
        exact ⟨v, by simpa using h1, h2⟩
    · cases j with
      | zero => exact ⟨_, rfl⟩
      | succ j =>
        obtain ⟨m, h1⟩ := S.nil j a h
        exact ⟨m, by simpa using h1⟩
    · cases j with
      | zero => exact n1
      | succ j => exact S.nd j
    · cases j with
      | zero =>
        cases k with
        | zero => rfl
        | succ k => exact absurd rfl (n3 a h1 a ((hP a).mp ⟨k, h2⟩))
      | succ j =>
        cases k with
        | zero => exact absurd rfl (n3 a h2 a ((hP a).mp ⟨j, h1⟩))
        | succ k => rw [S.dj j k a h1 h2]
    · cases j with
      | zero => exact fr a (List.mem_append_left _ h)
      | succ j => exact S.fr j a h
    · cases j with
      | zero => exact List.mem_append_left _ h
      | succ j => exact List.mem_append_right _ ((hP a).mp ⟨j, h⟩)
    · rcases List.mem_append.mp h with h | h
      · exact ⟨0, h⟩
      · obtain ⟨j, hj⟩ := (hP a).mpr h
        exact ⟨j + 1, hj⟩
end
section
variable {K : PySem.W.Frag} {W : WX} {bv : Nat → Option V} {e : Env} {σ : L2.St} {F H : Hp} {fp : Nat → List Addr}
/-- the slots, behind a call to which other things were handed over -/
theorem SS.past {F' H' : Hp} {P0 P' : Addr → Prop} (S : SS K bv e σ F H fp) (s : Stp F H P0 F' H' P') (off : ∀ a, Pf fp a → ¬ P0 a) (sub : Sub F' H') : SS K bv e σ F' H' fp ∧ ∀ a, Pf fp a → ¬ P' a := by
  refine ⟨S.heap s.ext sub (fun i a o h q => s.keep a o q (off a ⟨i, h⟩) (.inl (S.fr i a h))) fun i a h => ?_, fun a ⟨i, h⟩ z => ?_⟩
  · cases q : F' a with
    | none => rfl
    | some o =>
      rcases s.newF a (by rw [q]; simp) with z | z | z
      · exact absurd (S.fr i a h) z
      · exact absurd z (off a ⟨i, h⟩)
      · obtain ⟨o', q'⟩ := S.live h
        obtain ⟨vs, e1⟩ := z _ q'
        rw [e1] at q'
        exact absurd q' (S.ntup h vs)
  · rcases s.newP a z with y | y
    · exact off a ⟨i, h⟩ y
    · obtain ⟨o', q'⟩ := S.live h
      rw [q'] at y; cases y
def giveF (Fs : List M → FOut) (ms : List M) : EM M := fun e => match Fs ms with
  | .ok r _ => .ok r e
  | _ => .no
theorem give_at {Fs : List M → FOut} {vs : List V} {ms : List M} {fq : List Addr} {F0 H0 : Hp} {fp0 : Nat → List Addr} {Q : VK} (S : SS K bv e σ F H fp) (s0 : Stp F0 H0 (Pf fp0) F H (fun a => Pf fp a ∨ a ∈ fq)) (o : OwnL K F H vs ms fq) (nd : fq.Nodup) (dj : ∀ a ∈ fq, ¬ Pf fp a) (fr : ∀ a ∈ fq, F a = none) (q : AtG K W bv (rM K) (giveF Fs ms) e σ F0 H0 fp0 Q) : spF K Fs vs H Q E0 := by
  obtain ⟨fps, A, hP⟩ := o.ss nd fr S.sub
  refine ⟨ms, F, fps, A, ?_⟩
  unfold AtG giveF at q
  cases hF : Fs ms with
  | no => rw [hF] at q; exact q.elim
  | ex C fs ms' => rw [hF] at q; exact q.elim
  | ok r ms' =>
    rw [hF] at q
    dsimp only at q ⊢
    intro v F' H' fp' P' s' S' ⟨fpr, hP', ow, ndr, djr, frr⟩
    obtain ⟨S2, off⟩ := S.past s' (fun a h z => dj a ((hP a).mp z) h) S'.sub
    have s1 : Stp F H (fun a => Pf fp a ∨ a ∈ fq) F' H' (fun a => Pf fp a ∨ a ∈ fpr) := by
      refine ⟨s'.ext, fun a ob h n f => s'.keep a ob h (fun z => n (.inr ((hP a).mp z))) f, s'.live, fun a h => (s'.newF a h).imp id (Or.imp (fun z => .inr ((hP a).mp z)) id), fun a h => ?_⟩
      rcases h with h | h
      · exact .inl (.inl h)
      · exact (s'.newP a (hP' a (.inr h))).imp (fun z => .inr ((hP a).mp z)) id
    exact q v F' H' fp _ (s0.trans s1) S2 ⟨fpr, rfl, ow, ndr, fun a ha z => off a z (hP' a (.inr ha)), frr⟩
/-- a new object: what __init__ makes of it -/
def mkF (Fs : List M → FOut) (C : Str) (ms : List M) : EM M := fun e => match Fs (.ob C [] :: ms) with
  | .ok (.im .none) (o :: _) => .ok o e
  | _ => .no
theorem mk_at {Fs : List M → FOut} {vs : List V} {ms : List M} {fq : List Addr} {F0 H0 : Hp} {fp0 : Nat → List Addr} {Q : VK} {C : Str} {ca x dx : Addr} (S : SS K bv e σ F H fp) (s0 : Stp F0 H0 (Pf fp0) F H (fun a => Pf fp a ∨ a ∈ fq)) (o : OwnL K F H vs ms fq) (nd : fq.Nodup) (dj : ∀ a ∈ fq, ¬ Pf fp a) (fr : ∀ a ∈ fq, F a = none)
    (hC : PySem.W.nsIn K mainGlobals C = some (some (.ref ca))) (hx : H x = none) (hdx : H dx = none) (ne : dx ≠ x) (q : AtG K W bv (rM K) (mkF Fs C ms) e σ F0 H0 fp0 Q) : spF K Fs (.ref x :: vs) (upd (upd H dx (.own x)) x (.ins ca dx [])) (fun v H2 => v = .non ∧ Q (.ref x) H2) E0 := by
  have hx' : upd H dx (.own x) x = none := by rw [upd_ne ne.symm]; exact hx
  have kp : ∀ b u, H b = some u → upd (upd H dx (.own x)) x (.ins ca dx []) b = some u := fun b u h => by rw [upd_ne (ne_of_none h hx), upd_ne (ne_of_none h hdx)]; exact h
  have sub : Sub F (upd (upd H dx (.own x)) x (.ins ca dx [])) := (S.sub.mut (S.sub.non hdx)).mut (S.sub.non hx)
  have nx : x ∉ fq := fun z => by
    obtain ⟨u, hu⟩ := o.live x z
    rw [hx] at hu; cases hu
  have o1 : OwnL K F (upd (upd H dx (.own x)) x (.ins ca dx [])) (.ref x :: vs) (.ob C [] :: ms) ([x] ++ fq) := .cons (.ob (fs := []) (fms := []) (fp := []) hC upd_same rfl .nil) (o.mono (Sub.refl F) fun a _ u hu => kp a u hu)
  obtain ⟨fps, A, hP⟩ := o1.ss (List.nodup_append.mpr ⟨by simp, nd, fun a ha b hb z => by rw [List.mem_singleton] at ha; subst ha z; exact nx hb⟩) (fun a ha => by
    rcases List.mem_append.mp ha with h | h
    · rw [List.mem_singleton] at h; subst h; exact S.sub.non hx
    · exact fr a h) sub
  refine ⟨_, F, fps, A, ?_⟩
  unfold AtG mkF at q
  cases hF : Fs (.ob C [] :: ms) with
  | no => rw [hF] at q; exact q.elim
  | ex C fs ms' => rw [hF] at q; exact q.elim
  | ok r ms' =>
    rw [hF] at q
    have key : r = .im .none ∧ ∃ ob ms2, ms' = ob :: ms2 := by
      cases r with
      | im d => cases d <;> first | exact q.elim | (cases ms' with
          | nil => exact q.elim
          | cons ob ms2 => exact ⟨rfl, ob, ms2, rfl⟩)
      | _ => exact q.elim
    obtain ⟨rfl, ob, ms2, rfl⟩ := key
    dsimp only at q ⊢
    intro v F' H' fp' P' s' S' ⟨fpr, hP', ow, ndr, djr, frr⟩
    have ev : v = .non := by cases ow with | im rr => cases rr; rfl
    refine ⟨ev, ?_⟩
    have S1 : SS K bv e σ F (upd (upd H dx (.own x)) x (.ins ca dx [])) fp := S.heap (Sub.refl F) sub (fun i a u h hu => kp a u hu) S.fr
    have offx : ¬ Pf fp x := fun ⟨i, h⟩ => by
      obtain ⟨u, hu⟩ := S.live h
      rw [hx] at hu; cases hu
    have offq : ∀ a, Pf fp a → ¬ Pf fps a := fun a h z => by
      rcases List.mem_append.mp ((hP a).mp z) with y | y
      · rw [List.mem_singleton] at y; subst y; exact offx h
      · exact dj a y h
    obtain ⟨S2, off⟩ := S1.past s' offq S'.sub
    obtain ⟨w, hw, o2⟩ := S'.own 0 ob rfl
    simp at hw
    subst hw
    have s1 : Stp F H (fun a => Pf fp a ∨ a ∈ fq) F' H' (fun a => Pf fp a ∨ a ∈ fp' 0) := by
      refine ⟨s'.ext, fun a u h n f => s'.keep a u (kp a u h) (fun z => ?_) f, fun a h => ?_, fun a h => ?_, fun a h => ?_⟩
      · rcases List.mem_append.mp ((hP a).mp z) with y | y
        · rw [List.mem_singleton] at y; subst y; rw [hx] at h; cases h
        · exact n (.inr y)
      · have := s'.live a h
        cases z : H a with
        | none => rfl
        | some u => rw [kp a u z] at this; cases this
      · rcases s'.newF a h with y | y | y
        · exact .inl y
        · rcases List.mem_append.mp ((hP a).mp y) with z | z
          · rw [List.mem_singleton] at z; subst z; exact .inr (.inr (nw_of hx))
          · exact .inr (.inl (.inr z))
        · exact .inr (.inr fun u hu => y u (kp a u hu))
      · rcases h with h | h
        · exact .inl (.inl h)
        · rcases s'.newP a (hP' a (.inl ⟨0, h⟩)) with y | y
          · rcases List.mem_append.mp ((hP a).mp y) with z | z
            · rw [List.mem_singleton] at z; subst z; exact .inr hx
            · exact .inl (.inr z)
          · refine .inr ?_
            cases z : H a with
            | none => rfl
            | some u => rw [kp a u z] at y; cases y
    exact q (.ref x) F' H' fp _ (s0.trans s1) S2 ⟨fp' 0, rfl, o2, S'.nd 0, fun a ha z => off a z (hP' a (.inl ⟨0, ha⟩)), fun a ha => S'.fr 0 a ha⟩
end
section
variable {X : Cx} {W : WX} {bv : Nat → Option V} {pos p px apos : Pos} {a b o : Expr} {es : List Expr} {fa : EM D} {fm : EM M} {fv : EM (List M)} {ga : Env → Option D} {gs : Env → Option (List D)} {x C m : Str} {i k : Nat} {π : Way} {ps : List Str} {Fs : List M → FOut}
/-! ### arguments -/
def vN : EM (List M) := ret []
def vD (f : EM D) (fv : EM (List M)) : EM (List M) := bnd f fun d => bnd fv fun ms => ret (.im d :: ms)
def vM (f : EM M) (gs : Env → Option (List D)) : EM (List M) := bnd f fun m => bnd (qE gs) fun ds => ret (m :: ds.map .im)
theorem dv_nil : DV X W bv [] vN := pa_imp pa_nil fun σ H Q ⟨e, F, fp, S, q⟩ => q [] F H fp _ (Stp.refl _ _ _) S ⟨[], by simp, .nil, List.nodup_nil, (fun a h => by cases h), (fun a h => by cases h)⟩
theorem dv_d (h : DE X W bv a fa) (hr : DV X W bv es fv) (hs : starEach (a :: es) X.env = (false, eval a X.env) :: starEach es X.env := by rfl) : DV X W bv (a :: es) (vD fa fv) :=
  pa_imp (pa_cons h hr hs) fun σ H Q t => by
    refine tG.mono (tG.bnd (r := rD X.K) t) fun y H1 ⟨d, e1, F1, fp1, S1, r1, q1⟩ => ?_
    refine ⟨e1, F1, fp1, S1, ?_⟩
    unfold AtG bnd at q1
    unfold AtG
    cases z : fv e1 with
    | no => rw [z] at q1; exact q1
    | ex C fs e' => rw [z] at q1; exact q1
    | ok ms e2 =>
      rw [z] at q1
      intro vs F2 H2 fp2 P2 s2 S2 ⟨fpr, hP, ow, nd, dj, fr⟩
      exact q1 (y :: vs) F2 H2 fp2 P2 s2 S2 ⟨fpr, hP, OwnL.cons (fp := []) (.im (Rp.mono s2.ext r1)) ow, nd, dj, fr⟩
theorem dv_m (h : DM X W bv a fm) (hr : DQA X bv es gs) (hs : starEach (a :: es) X.env = (false, eval a X.env) :: starEach es X.env := by rfl) : DV X W bv (a :: es) (vM fm gs) :=
  pa_imp (pa_cons h hr hs) fun σ H Q ⟨e, F, fp, S, q⟩ => by
    refine ⟨e, F, fp, S, ?_⟩
    unfold AtG vM bnd at q
    unfold AtG
    cases z : fm e with
    | no => rw [z] at q; exact q
    | ex C fs e' => rw [z] at q; exact q
    | ok m e1 =>
      rw [z] at q
      intro v F1 H1 fp1 P1 s1 S1 ⟨fpr, hP, ow, nd, dj, fr⟩
      dsimp only at q
      cases z2 : gs e1 with
      | none => simp only [qE, z2] at q
      | some ds =>
        simp only [qE, z2, ret] at q
        refine ⟨e1, F1, fp1, S1, ds, z2, fun vs F2 H2 s2 S2 r2 => ?_⟩
        have o2 : Own X.K F2 H2 v m fpr := ow.mono s2.ext fun b hb u hu => s2.keep b u hu id (.inl (fr b hb))
        have nF : ∀ b ∈ fpr, F2 b = none := fun b hb => by
          cases y : F2 b with
          | none => rfl
          | some ob =>
            rcases s2.newF b (by rw [y]; simp) with w | w | w
            · exact absurd (fr b hb) w
            · exact w.elim
            · obtain ⟨ob', q'⟩ := ow.live b hb
              obtain ⟨ws, e1⟩ := w _ q'
              rw [e1] at q'
              exact absurd q' (ow.ntup b hb ws)
        refine q (v :: vs) F2 H2 fp1 P1 ?_ S2 ⟨fpr, hP, by simpa using OwnL.cons o2 (OwnL.ims r2), by simpa using nd, dj, nF⟩
        refine ⟨s1.ext.trans s2.ext, fun b u hu n f => s2.keep b u (s1.keep b u hu n f) id ?_, fun b hb => s1.live b (s2.live b hb), fun b hb => ?_, s1.newP⟩
        · rcases f with f | f
          · cases y : F1 b with
            | none => exact .inl rfl
            | some ob =>
              rcases s1.newF b (by rw [y]; simp) with w | w | w
              · exact absurd f w
              · exact absurd w n
              · exact .inr (w u hu)
          · exact .inr f
        · rcases s2.newF b hb with w | w | w
          · exact s1.newF b w
          · exact w.elim
          · by_cases pp : Pf fp b
            · exact .inr (.inl pp)
            · by_cases f : F b = none
              · exact .inr (.inr fun ob hob => w ob (s1.keep b ob hob pp (.inl f)))
              · exact .inl f
def callV (Fs : List M → FOut) (fv : EM (List M)) : EM M := bnd fv fun ms => giveF Fs ms
theorem dm_callV (hh : Has X.prog X.w X.K X.mg X.base k x ps Fs) (hgd : X.A.guards = some []) (hr : Room k X.A) (ha : DV X W bv (a :: es) fv) (hg : Gl X x := by rfl) (hdb : (x == ("__debug__" : Str)) = false := by decide) (he : starEach (a :: es) X.env = (false, eval a X.env) :: starEach es X.env := by rfl) (hpl : (backTo pos (starEach es X.env)).any (·.1) = false := by rfl) :
    DM X W bv (.Call (.Name x p) (a :: es) [] pos) (callV Fs fv) := by
  obtain ⟨f, fd, G, hm, hk, hb⟩ := hh
  refine pe_imp (pe_callG (E := E0) G hgd hr hg hm hk hb ha hdb he hpl) fun σ H Q ⟨e, F, fp, S, q⟩ => ?_
  refine ⟨e, F, fp, S, ?_⟩
  unfold AtG callV bnd at q
  unfold AtG
  cases z : fv e with
  | no => rw [z] at q; exact q
  | ex C fs e' => rw [z] at q; exact q
  | ok ms e1 =>
    rw [z] at q
    intro vs F1 H1 fp1 P1 s1 S1 ⟨fpr, hP, ow, nd, dj, fr⟩
    subst hP
    exact give_at S1 s1 ow nd dj fr q
/-! ### C(..) -/
theorem pe_makeG {ca f : Addr} {fd : FuncData} {sp : Sp} {E : XK} {t : TA} (M : Mk X.K ca f) (G : FnG X.prog X.w X.K X.mg X.base k f fd ps sp) (hgd : X.A.guards = some []) (hr : Room (k + 1) X.A) (hg : Gl X x) (hm : X.mg x = some (.ref ca)) (hb : Binds X.K fd ps []) (ha : PA X (a :: es) t)
    (hdb : (x == ("__debug__" : Str)) = false) (he : starEach (a :: es) X.env = (false, eval a X.env) :: starEach es X.env) (hpl : (backTo pos (starEach es X.env)).any (·.1) = false) :
    PE X (.Call (.Name x p) (a :: es) [] pos) (fun σ H Q => t σ H fun vs H1 => ∀ y dx, H1 y = none → H1 dx = none → dx ≠ y → sp (.ref y :: vs) (upd (upd H1 dx (.own y)) y (.ins ca dx [])) (fun v H2 => v = .non ∧ Q (.ref y) H2) E) := by
  refine ⟨fun pins s σ H Q I h => wpAny_Call_Name_kw (ld_glob I hg hm (PySem.W.callWith_K (h₀ := X.base) I.ok.mod.kin M.kp (thn (ha.run pos pins s σ H _ I h) fun us s1 ⟨vs, H1, I1, r, q⟩ => ⟨I1.kIn, ?_⟩) he hpl) hdb)⟩
  have hq := q (s1.heap.objs.size + 1) s1.heap.objs.size (I1.hok.fresh (Nat.le_succ _)) (I1.hok.fresh (Nat.le_refl _)) (Nat.ne_of_lt (Nat.lt_succ_self _))
  have I2 := Inv.made (C := ca) I1
  have r2 : Vals (V.ref (s1.heap.objs.size + 1) :: vs) (Value.ref (s1.heap.objs.size + 1) :: us) := .cons rfl r
  have bi := hb { s1 with heap := (s1.heap.push PySem.W.emptyDict).push (PySem.W.instObj ca s1.heap.objs.size) } (Value.ref (s1.heap.objs.size + 1) :: us) I2.kIn (by rw [List.append_nil, ← r2.length]; exact G.len _ _ _ _ hq)
  rw [List.append_nil] at bi
  refine wpAny_call (make_map (f := f) I1.kIn M.makes M.init (beq_iff_eq.mp M.fn) (codeAny_mono (G.go (A := X.A.under (.builtin "type.__call__" ⟨.ref ca :: us, []⟩)) ?_ (hr.make ca us []) (I2.env0.make ca us []) bi r2 hq) fun rs s' hq' => ?_))
  · exact hgd
  · cases rs with
    | error _ => exact hq'.elim
    | ok fl =>
      cases fl with
      | ret u =>
        obtain ⟨v, H', I3, rv, ev, q3⟩ := I2.after hq'
        subst ev
        exact ⟨rv, ⟨V.ref (s1.heap.objs.size + 1), H', I3, rfl, q3⟩⟩
      | _ => exact hq'.elim
end
section
variable (P : Program) (w : World) (K : PySem.W.Frag) (mg : Str → Option Value) (base : Heap)
/-- the class C and its __init__ -/
def HasC (k : Nat) (C : Str) (ps : List Str) (Fs : List M → FOut) : Prop := ∃ ca f fd, PySem.W.nsIn K mainGlobals C = some (some (.ref ca)) ∧ mg C = some (.ref ca) ∧ Mk K ca f ∧ FnG P w K mg base k f fd ps (spF K Fs) ∧ Binds K fd ps []
end
section
variable {X : Cx} {W : WX} {bv : Nat → Option V} {pos p px apos : Pos} {a b o : Expr} {es : List Expr} {fa : EM D} {fm : EM M} {fv : EM (List M)} {ga : Env → Option D} {gs : Env → Option (List D)} {x C m : Str} {i k : Nat} {π : Way} {ps : List Str} {Fs : List M → FOut}
def makeV (Fs : List M → FOut) (C : Str) (fv : EM (List M)) : EM M := bnd fv fun ms => mkF Fs C ms
theorem dm_makeV (hh : HasC X.prog X.w X.K X.mg X.base k C ps Fs) (hgd : X.A.guards = some []) (hr : Room (k + 1) X.A) (ha : DV X W bv (a :: es) fv) (hg : Gl X C := by rfl) (hdb : (C == ("__debug__" : Str)) = false := by decide) (he : starEach (a :: es) X.env = (false, eval a X.env) :: starEach es X.env := by rfl) (hpl : (backTo pos (starEach es X.env)).any (·.1) = false := by rfl) :
    DM X W bv (.Call (.Name C p) (a :: es) [] pos) (makeV Fs C fv) := by
  obtain ⟨ca, f, fd, hC, hm, M, G, hb⟩ := hh
  refine pe_imp (pe_makeG (E := E0) M G hgd hr hg hm hb ha hdb he hpl) fun σ H Q ⟨e, F, fp, S, q⟩ => ?_
  refine ⟨e, F, fp, S, ?_⟩
  unfold AtG makeV bnd at q
  unfold AtG
  cases z : fv e with
  | no => rw [z] at q; exact q
  | ex C fs e' => rw [z] at q; exact q
  | ok ms e1 =>
    rw [z] at q
    intro vs F1 H1 fp1 P1 s1 S1 ⟨fpr, hP, ow, nd, dj, fr⟩
    subst hP
    intro y dx hy hdx ne
    exact mk_at S1 s1 ow nd dj fr hC hy hdx ne q
end
end FD

/-! FD: fields stored; things moved out of slots; stores, pops at places. -/
namespace FD
open PySem L2
section
variable {K : PySem.W.Frag} {F H : Hp}
/-- a field put, new or in the place of another one -/
theorem OwnL.putf {f : Str} {v : V} {n : M} {l : List Addr} (o : Own K F H v n l) : ∀ {fs : List (Str × V)} {fms : List (Str × M)} {fq : List Addr}, fs.map (·.1) = fms.map (·.1) → OwnL K F H (fs.map (·.2)) (fms.map (·.2)) fq → (fq ++ l).Nodup →
    ∃ fq', OwnL K F H ((putG f v fs).map (·.2)) ((putG f n fms).map (·.2)) fq' ∧ fq'.Nodup ∧ ∀ a ∈ fq', a ∈ fq ∨ a ∈ l
  | [], [], _, _, .nil, nd => ⟨l ++ [], .cons o .nil, by simpa using nd, fun a ha => .inr (by simpa using ha)⟩
  | [], _ :: _, _, h, _, _ => by simp at h
  | _ :: _, [], _, h, _, _ => by simp at h
  | (g, x) :: fs, (g', y) :: fms, fq, hn, ho, nd => by
    simp only [List.map_cons, List.cons.injEq] at hn
    obtain ⟨rfl, hn⟩ := hn
    simp only [List.map_cons] at ho
    cases ho with
    | cons ox t =>
      rename_i fp fr
      rw [List.append_assoc] at nd
      obtain ⟨n1, n2, n3⟩ := List.nodup_append.mp nd
      by_cases e : g = f
      · refine ⟨l ++ fr, ?_, ?_, fun a ha => ?_⟩
        · unfold putG
          rw [if_pos e, if_pos e]
          exact .cons o t
        · exact (List.perm_append_comm.nodup_iff).mp n2
        · rcases List.mem_append.mp ha with z | z
          · exact .inr z
          · exact .inl (List.mem_append_right _ z)
      · obtain ⟨fq', h1, h2, h3⟩ := OwnL.putf o hn t n2
        refine ⟨fp ++ fq', ?_, List.nodup_append.mpr ⟨n1, h2, fun a ha b hb z => ?_⟩, fun a ha => ?_⟩
        · unfold putG
          rw [if_neg e, if_neg e]
          exact .cons ox h1
        · subst z
          exact n3 a ha a (List.mem_append.mpr (h3 a hb)) rfl
        · rcases List.mem_append.mp ha with z | z
          · exact .inl (List.mem_append_left _ z)
          · exact (h3 a z).imp (List.mem_append_right _) id
end
def fldK (C f : Str) (n : M) (m : M) : Option M := match m with
  | .ob C' fms => if C' = C ∧ fms.length < 1000 then some (.ob C' (putG f n fms)) else none
  | _ => none
def fldS (i : Nat) (π : Way) (C f : Str) (fm : EM M) : EM Flow := bnd fm fun n e => match (pgM i π e).bind (fldK C f n) with
  | some m => .ok .nxt (psM i π m e)
  | none => .no
section
variable {X : Cx} {W : WX} {bv : Nat → Option V} {pos p px apos tpos : Pos} {a b o : Expr} {es : List Expr} {fa : EM D} {fm : EM M} {fv : EM (List M)} {ga gb : Env → Option D} {gs : Env → Option (List D)} {x C f m : Str} {i k : Nat} {π : Way} {ps : List Str} {Fs : List M → FOut}
theorem fld_at {K : PySem.W.Frag} {e : Env} {σ : L2.St} {F H F0 H0 : Hp} {fp fp0 : Nat → List Addr} {n m' : M} {u : V} {fpr : List Addr} {D : Ends} (at_ : Att K C f) (S : SS K bv e σ F H fp) (s0 : Stp F0 H0 (Pf fp0) F H (fun a => Pf fp a ∨ a ∈ fpr)) (ow : Own K F H u n fpr) (nd : fpr.Nodup) (dj : ∀ a ∈ fpr, ¬ Pf fp a) (fr : ∀ a ∈ fpr, F a = none)
    (h : (pgM i π e).bind (fldK C f n) = some m') (q : ∀ F' H' fp', Stp F0 H0 (Pf fp0) F' H' (Pf fp') → SS K bv (psM i π m' e) σ F' H' fp' → D.nx σ H') :
    ∃ v v', σ[i]? = some (some v) ∧ PathV K H π v v' ∧ ∃ a ca dx fs, v' = .ref a ∧ H a = some (.ins ca dx fs) ∧ Cls K ca ∧ NoAttr K ca f ∧ fs.length < 1000 ∧ D.nx σ (upd H a (.ins ca dx (putF f u fs))) := by
  obtain ⟨mo, hp, hk⟩ := Option.bind_eq_some_iff.mp h
  obtain ⟨m0, he, hg⟩ := pgM_some hp
  obtain ⟨v, v', l, r, h1, h2, h3, h4, h5⟩ := S.focus he hg
  unfold fldK at hk
  split at hk
  rotate_left
  · cases hk
  rename_i C' fms
  split at hk
  rotate_left
  · cases hk
  rename_i hc
  obtain ⟨rfl, hlen⟩ := hc
  cases hk
  have lin : ∀ a ∈ l, a ∈ fp i := fun a ha => h4.mem_iff.mpr (List.mem_append_left _ ha)
  have rin : ∀ a ∈ r, a ∈ fp i := fun a ha => h4.mem_iff.mpr (List.mem_append_right _ ha)
  have ndl : (l ++ r).Nodup := h4.nodup_iff.mp (S.nd i)
  have lr : ∀ a ∈ l, a ∉ r := fun a hl ha => (List.nodup_append.mp ndl).2.2 a hl a ha rfl
  cases h3 with
  | ob hC ha hn ro =>
    rename_i a0 ca dx fs fq
    have ne : ∀ b, b ∈ fq → b ≠ a0 := fun b hb z => (List.nodup_cons.mp (List.nodup_append.mp ndl).1).1 (by rw [← z]; exact hb)
    have nr : ∀ b, b ∈ fpr → b ≠ a0 := fun b hb z => dj b hb ⟨i, by rw [z]; exact lin a0 List.mem_cons_self⟩
    have fa0 : F a0 = none := S.fr i a0 (lin a0 List.mem_cons_self)
    have ow' : Own K F (upd H a0 (.ins ca dx (putF f u fs))) u n fpr := ow.mono (Sub.refl F) fun b hb w hw => by rw [upd_ne (nr b hb)]; exact hw
    have ro' : OwnL K F (upd H a0 (.ins ca dx (putF f u fs))) (fs.map (·.2)) (fms.map (·.2)) fq := ro.mono (Sub.refl F) fun b hb w hw => by rw [upd_ne (ne b hb)]; exact hw
    have ndq : (fq ++ fpr).Nodup := List.nodup_append.mpr ⟨(List.nodup_cons.mp (List.nodup_append.mp ndl).1).2, nd, fun b hb c hc z => by subst z; exact dj b hc ⟨i, lin b (List.mem_cons_of_mem _ hb)⟩⟩
    obtain ⟨fq', k1, k2, k3⟩ := OwnL.putf (f := f) ow' hn ro' ndq
    rw [← putF_G f u fs] at k1
    have o2 : Own K F (upd H a0 (.ins ca dx (putF f u fs))) (.ref a0) (.ob C' (putG f n fms)) (a0 :: fq') := .ob (fs := putF f u fs) hC upd_same (by rw [putF_G]; exact putG_names f u n hn) k1
    have inl : ∀ b ∈ a0 :: fq', (b ∈ a0 :: fq) ∨ b ∈ fpr := fun b hb => by
      rcases List.mem_cons.mp hb with z | z
      · exact .inl (by rw [z]; exact List.mem_cons_self)
      · exact (k3 b z).imp (List.mem_cons_of_mem _) id
    obtain ⟨fp', pp, S'⟩ := h5 F _ _ (a0 :: fq') (Sub.refl F) (S.sub.mut fa0) (fun b hb w hw => by rw [upd_ne fun z => lr a0 List.mem_cons_self (by rw [← z]; exact hb)]; exact hw) (fun b hb => S.fr i b (rin b hb))
      (fun j nj b hb w hw => by rw [upd_ne fun z => nj (S.dj j i b hb (by rw [z]; exact lin a0 List.mem_cons_self))]; exact hw) (fun j _ b hb => S.fr j b hb) o2
      (List.nodup_cons.mpr ⟨fun z => (k3 a0 z).elim (fun y => ne a0 y rfl) fun y => nr a0 y rfl, k2⟩) (fun b hb => (inl b hb).elim (fun z => S.fr i b (lin b z)) (fr b)) (fun b hb z => (inl b hb).elim (fun y => lr b y z) fun y => dj b y ⟨i, rin b z⟩) (fun j nj b hb z => (inl b z).elim (fun y => nj (S.dj j i b hb (lin b y))) fun y => dj b y ⟨j, hb⟩)
    refine ⟨v, _, h1, h2, a0, ca, dx, fs, rfl, ha, (at_ ca hC).1, (at_ ca hC).2, by have := congrArg List.length hn; simp only [List.length_map] at this; omega, q F _ (FD.put fp i fp') (s0.trans ?_) (by rw [psM_eq he]; exact S')⟩
    refine ⟨Sub.refl F, fun b w hb n _ => ?_, fun b hb => ?_, fun b hb => .inl hb, fun b ⟨j, hj⟩ => ?_⟩
    · rw [upd_ne fun z => n (.inl ⟨i, by rw [z]; exact lin a0 List.mem_cons_self⟩)]; exact hb
    · by_cases z : b = a0
      · rw [z, upd_same] at hb; cases hb
      · rw [upd_ne z] at hb; exact hb
    · by_cases nj : j = i
      · subst nj
        rw [put_same] at hj
        rcases List.mem_append.mp (pp.mem_iff.mp hj) with z | z
        · exact .inl ((inl b z).imp (fun y => ⟨j, lin b y⟩) id)
        · exact .inl (.inl ⟨j, rin b z⟩)
      · rw [put_ne nj] at hj
        exact .inl (.inl ⟨j, hj⟩)
theorem ds_fld (at_ : Att X.K C f) (hp : PL X o i π) (hm : DM X W bv a fm) (hs : swapsWith a (some (.Attribute o f tpos)) pos.line X.env = pure false := by rfl) : DS X W bv (.Assign [.Attribute o f tpos] a pos) (fldS i π C f fm) :=
  ps_imp (ps_fld hp hm hs) fun D σ H ⟨e, F, fp, S, q⟩ => by
    refine tG.mono (AtS.bndM S q) fun u H1 ⟨n, e1, F1, fp1, P1, _, s1, S1, r1, q1⟩ => ?_
    obtain ⟨fpr, hP, ow, nd, dj, fr⟩ := r1
    subst hP
    unfold AtS at q1
    dsimp only at q1
    cases hk : (pgM i π e1).bind (fldK C f n) with
    | none => rw [hk] at q1; exact q1.elim
    | some m' =>
      rw [hk] at q1
      exact fld_at at_ S1 s1 ow nd dj fr hk fun F' H' fp' s' S' => q1 σ F' H' fp' s' S'
/-! ### a thing moved out of a slot -/
def mvM (i : Nat) : EM M := fun e => match e[i]? with
  | some (some m) => .ok m (e.set i (some .gone))
  | _ => .no
theorem dm_mv (i : Nat) (hN : X.N[i]? = some x := by rfl) (hv : Vis X.env.scope x := by first | exact Or.inl rfl | exact Or.inr (Or.inl rfl) | exact Or.inr (Or.inr rfl)) (hd : (x == ("__debug__" : Str)) = false := by decide) (hcd : (x == ("__classdict__" : Str)) = false := by decide) : DM X W bv (.Name x pos) (mvM i) :=
  pe_imp (pe_var hN hv hd hcd) fun σ H Q ⟨e, F, fp, S, q⟩ => by
    unfold AtG mvM at q
    cases he : e[i]? with
    | none => rw [he] at q; exact q.elim
    | some n =>
      cases n with
      | none => rw [he] at q; exact q.elim
      | some n =>
        rw [he] at q
        obtain ⟨v, hv', o⟩ := S.own i n he
        refine ⟨v, hv', q v F H (put fp i []) _ ⟨Sub.refl F, fun _ _ h _ _ => h, fun _ h => h, fun _ h => .inl h, fun a h => ?_⟩ (S.put (Sub.refl F) S.sub (List.getElem?_eq_some_iff.mp he).1 hv' (fun _ _ => rfl) rfl (fun u hu => by have z := S.bor i u hu; rw [hv'] at z; cases z; rfl) .gone List.nodup_nil (fun a h => by cases h) (fun _ _ _ _ h => by cases h) (fun _ _ _ _ _ h => h) (fun j _ a h => S.fr j a h)) ⟨fp i, rfl, o, S.nd i, fun a ha ⟨j, hj⟩ => ?_, fun a ha => S.fr i a ha⟩⟩
        · rcases h with ⟨j, hj⟩ | h
          · by_cases nj : j = i
            · subst nj; rw [put_same] at hj; cases hj
            · rw [put_ne nj] at hj; exact .inl ⟨j, hj⟩
          · exact .inl ⟨i, h⟩
        · by_cases nj : j = i
          · subst nj; rw [put_same] at hj; cases hj
          · rw [put_ne nj] at hj; exact nj (S.dj j i a hj ha)
/-! ### xs[k] = v at a place -/
def stoK (d : D) (m : M) (k : D) : Option M := match m with
  | .ls ms => match k with
    | .int k => match ixN ms.length k with
      | some j => match ms[j]? with
        | some (.im _) => some (.ls (ms.set j (.im d)))
        | _ => none
      | none => none
    | _ => none
  | .dk kms => match kOf k with
    | some k => if few (kms.length + 1) && imK kms k then some (.dk (putKK kms k (.im d))) else none
    | none => none
  | .dt kms => match ksOf k with
    | some k => if few (kms.length + 1) && imK kms k then some (.dt (putKK kms k (.im d))) else none
    | none => none
  | _ => none
def stoP (i : Nat) (π : Way) (gk : Env → Option D) (fv : EM D) : EM Flow := bnd fv fun d => chP i π gk (stoK d)
theorem ds_stoP {tp : Pos} (hr : Room k X.A) (hp : PL X o i π) (hk : DQ X bv b gb) (hvl : DE X W bv a fa)
    (ha : ∀ v, assign (.Subscript o b tp) X.env v = (do let ov ← holding [v] (eval o X.env); let iv ← holding [v, ov] (eval b X.env); standAt tp; holding [v, ov, iv] (setItem ov iv v); release [v, ov, iv] []) := by intro _; rfl)
    (hs : swapsWithSole [.Subscript o b tp] a pos.line X.env = pure false := by rfl) (hw : swappedStores [.Subscript o b tp] a X.env = pure none := by rfl)
    (h1 : (assignEach [.Subscript o b tp] X.env).map (·.2) = [assign (.Subscript o b tp) X.env] := by rfl) :
    DS X W bv (.Assign [.Subscript o b tp] a pos) (stoP i π gb fa) :=
  ps_imp (ps_asg hvl (pg_sub hp hk (set_any hr) ha) hs hw h1) fun D σ H ⟨e, F, fp, S, q⟩ => by
    refine tG.mono (AtS.bnd' (r := rD X.K) S q) fun v H1 ⟨d, e1, F1, fp1, _, _, S1, r1, q1⟩ => ?_
    obtain ⟨m, y, n, hpm, hy, hn, q2⟩ := chP_some q1
    obtain ⟨w, w', l0, h1, h2, h3, _⟩ := S1.at hpm
    refine ⟨w, w', h1, h2, e1, F1, fp1, S1, y, hy, fun kv F2 H2 s2 S2 r2 => ?_⟩
    obtain ⟨p2, _⟩ := S1.still hpm h1 h2 s2 S2
    obtain ⟨u, u', l, g1, g2, g3, g4, g5, g6⟩ := S2.chg hpm
    rw [h1] at g1
    cases g1
    have eu := PathV.uniq p2 g2
    subst eu
    have r1' := Rp.mono s2.ext r1
    unfold stoK at hn
    split at hn
    · cases g3 with
      | ls gl gr =>
        split at hn
        · cases r2
          split at hn
          · rename_i j hj
            split at hn
            · rename_i d0 hd0
              cases hn
              obtain ⟨fp', S3, s3⟩ := g6 _ _ (.lst _) _ rfl (.ls upd_same ((gr.set r1' hd0).other (List.nodup_cons.mp g5).1))
              exact .inl ⟨_, _, _, j, rfl, rfl, gl, by rw [gr.length]; exact hj, q2 F2 _ fp' (s2.loud.trans s3) S3⟩
            · cases hn
          · cases hn
        · cases hn
    · cases g3 with
      | dk gl gn gr =>
        split at hn
        · rename_i kk hkk
          split at hn
          · rename_i hz
            cases hn
            rw [Bool.and_eq_true] at hz
            have ey := Rp.key r2 hkk
            subst ey
            obtain ⟨p1, p3⟩ := put_own r1' gn gr hz.2
            obtain ⟨fp', S3, s3⟩ := g6 _ _ (.dK _) _ rfl (.dk upd_same p1 (p3.other (List.nodup_cons.mp g5).1))
            have hl := congrArg List.length gn
            simp only [List.length_map] at hl
            exact .inr ⟨_, _, rfl, DPut.k gl (by have := few_le hz.1; omega), q2 F2 _ fp' (s2.loud.trans s3) S3⟩
          · cases hn
        · cases hn
    · cases g3 with
      | dt gl gn gr =>
        split at hn
        · rename_i kk hkk
          split at hn
          · rename_i hz
            cases hn
            rw [Bool.and_eq_true] at hz
            obtain ⟨kb, rfl, hkb⟩ := Rp.keyT r2 hkk
            obtain ⟨p1, p3⟩ := put_own r1' gn gr hz.2
            obtain ⟨fp', S3, s3⟩ := g6 _ _ (.dT _) _ rfl (.dt upd_same p1 (p3.other (List.nodup_cons.mp g5).1))
            have hl := congrArg List.length gn
            simp only [List.length_map] at hl
            exact .inr ⟨_, _, rfl, DPut.t gl (S2.sub.tp _ _ hkb) (by have := few_le hz.1; omega), q2 F2 _ fp' (s2.loud.trans s3) S3⟩
          · cases hn
        · cases hn
    · cases hn
end
end FD

/-! FD: a list of things to own, walked: each is moved into the loop's name. -/
namespace FD
open PySem L2
theorem Stp.less {F H F' H' : Hp} {P P' P2 : Addr → Prop} (s : Stp F H P F' H' P') (h : ∀ a, P2 a → P' a) : Stp F H P F' H' P2 := ⟨s.ext, s.keep, s.live, s.newF, fun a z => s.newP a (h a z)⟩
theorem Stp.frame {F H F' H' : Hp} {P P' : Addr → Prop} (R : Addr → Prop) (s : Stp F H P F' H' P') : Stp F H (fun a => P a ∨ R a) F' H' (fun a => P' a ∨ R a) :=
  ⟨s.ext, fun a o h n f => s.keep a o h (fun z => n (.inl z)) f, s.live, fun a h => (s.newF a h).elim .inl fun z => .inr (z.elim (fun z => .inl (.inl z)) .inr), fun a h => h.elim (fun z => (s.newP a z).elim (fun z => .inl (.inl z)) .inr) fun z => .inl (.inr z)⟩
/-- what nobody in sight owns stays -/
theorem Stp.off {F H F' H' : Hp} {P P' : Addr → Prop} (s : Stp F H P F' H' P') {a : Addr} {o : HO} (h : H a = some o) (n : ¬ P a) (f : F a = none) (t : ∀ vs, o ≠ .tup vs) : H' a = some o ∧ F' a = none ∧ ¬ P' a := by
  refine ⟨s.keep a o h n (.inl f), ?_, fun z => (s.newP a z).elim n fun q => by rw [h] at q; cases q⟩
  cases e : F' a with
  | none => rfl
  | some o' =>
    rcases s.newF a (by rw [e]; intro z; cases z) with z | z | z
    · exact absurd f z
    · exact absurd z n
    · obtain ⟨vs, q⟩ := z o h
      exact absurd q (t vs)
def loopM (i : Nat) (g : EM Flow) : List M → EM Flow
  | [] => ret .nxt
  | m :: ms => fun e => if i < e.length then match g (e.set i (some m)) with
      | .ok .nxt e' => loopM i g ms e'
      | .ok .cnt e' => loopM i g ms e'
      | .ok .brk e' => .ok .nxt e'
      | .ok (.ret m) e' => .ok (.ret m) e'
      | .ex C fs e' => .ex C fs e'
      | .no => .no
    else .no
def forM (i : Nat) (f : EM M) (g : EM Flow) : EM Flow := bnd f fun m => match m with
  | .ls ms => loopM i g ms
  | _ => fun _ => .no
section
variable {X : Cx} {W : WX} {bv : Nat → Option V} {pos px : Pos} {iter : Expr} {body : List Stmt} {fm : EM M} {g : EM Flow} {x : Str}
theorem ds_forM (i : Nat) (hN : X.N.Nodup) (h : DM X W bv iter fm) (hb : DSs X W bv body g) (hp : PassesOwn (model X.prog X.w) X.A X.env X.xe) (hi : X.N[i]? = some x := by rfl) (hx : Loc X.env.scope x := by first | exact Or.inl rfl | exact Or.inr rfl) (hbv : bv i = none := by rfl)
    (hf : X.fn x = true ∨ X.env.scope.names.lookup x = some .local := by first | exact .inl rfl | exact .inr rfl) (hc : X.calm = true := by rfl)
    (hs : ∀ x, foldedSetIterable iter X.env x = pure x := by intro _; rfl) : DS X W bv (.For (.Name x px) iter body [] pos) (forM i fm g) :=
  ps_imp (ps_for hp hc (pi_list h) (pg_name hN hi hx hf) hb hs) fun D σ H ⟨e, F, fp, S, q⟩ => by
    refine tG.mono (AtS.bndM S q) fun v H1 ⟨m, e1, F1, fp1, P1, _, s1, S1, r1, q1⟩ => ?_
    cases m with
    | ls ms =>
      obtain ⟨fpr, hP, ow, nd, dj, fr⟩ := r1
      subst hP
      cases ow with
      | @ls a vs ms fq ha ol =>
        refine ⟨_, rfl, ⟨_, SqL.of ha⟩, ?_⟩
        have hlen := ol.length
        refine ⟨fun k n σ' H' => n = ms.length - k ∧ k ≤ ms.length ∧ ∃ e' F' fp' fq, SS X.K bv e' σ' F' H' fp' ∧ H' a = some (.lst vs) ∧ ¬ Pf fp' a ∧ F' a = none ∧ a ∉ fq ∧ OwnL X.K F' H' (vs.drop k) (ms.drop k) fq ∧ fq.Nodup ∧ (∀ b ∈ fq, ¬ Pf fp' b) ∧ (∀ b ∈ fq, F' b = none) ∧ Stp F H (Pf fp) F' H' (fun b => Pf fp' b ∨ b ∈ fq) ∧ AtS X.K W bv (loopM i g (ms.drop k)) e' σ' F H fp D,
          ⟨ms.length, rfl, Nat.zero_le _, e1, F1, fp1, fq, S1, ha, dj a List.mem_cons_self, fr a List.mem_cons_self, (List.nodup_cons.mp nd).1, ol, (List.nodup_cons.mp nd).2, (fun b hb => dj b (List.mem_cons_of_mem _ hb)), (fun b hb => fr b (List.mem_cons_of_mem _ hb)), s1.less (fun b hb => hb.imp id (List.mem_cons_of_mem _)), q1⟩, ?_⟩
        rintro k n σ' H' ⟨rfl, hk, e', F', fp', fq', S', ha', na', fa', nq', ol', nd', dj', fr', s', q'⟩
        by_cases hlt : k < ms.length
        · have hv : vs[k]? = some vs[k] := List.getElem?_eq_getElem (by omega)
          rw [List.drop_eq_getElem_cons hlt, List.drop_eq_getElem_cons (by omega : k < vs.length)] at ol'
          cases ol' with
          | @cons _ _ _ _ l r o1 o2 =>
            have nl := List.nodup_append.mp nd'
            refine .inr ⟨⟨_, vs[k], SqL.of ha', hv⟩, _, fun σ2 H2 h2 => ⟨ms.length - (k + 1), by omega, h2⟩, fun x H2 ⟨eH, y⟩ => ?_⟩
            have eH' := eH.symm
            subst eH'
            have hxv := y _ (SqL.of ha')
            rw [hv] at hxv
            cases hxv
            rw [List.drop_eq_getElem_cons hlt] at q'
            unfold AtS at q'
            simp only [loopM] at q'
            by_cases hie : i < e'.length
            · rw [if_pos hie] at q'
              have S2 := S'.store (P := fun b => Pf fp' b ∨ b ∈ l) hie hbv o1 nl.1 (fun b hb => dj' b (List.mem_append_left _ hb)) (fun b hb => fr' b (List.mem_append_left _ hb))
              have out2 : ∀ b, ¬ Pf fp' b → b ∉ l → ¬ Pf (put fp' i l) b := fun b n1 n2 ⟨j, hj⟩ => by
                by_cases ej : j = i
                · subst ej; rw [put_same] at hj; exact n2 hj
                · rw [put_ne ej] at hj; exact n1 ⟨j, hj⟩
              have s2 : Stp F H (Pf fp) F' H' (fun b => Pf (put fp' i l) b ∨ b ∈ r) := s'.less fun b hb => by
                rcases hb with ⟨j, hj⟩ | hb
                · by_cases ej : j = i
                  · subst ej; rw [put_same] at hj; exact .inr (List.mem_append_left _ hj)
                  · rw [put_ne ej] at hj; exact .inl ⟨j, hj⟩
                · exact .inr (List.mem_append_right _ hb)
              have al : a ∉ l := fun z => nq' (List.mem_append_left _ z)
              refine ⟨_, F', _, S2, ?_⟩
              show OutS _ _ _ (g (e'.set i (some ms[k]))) _ _ _ _
              cases z3 : g (e'.set i (some ms[k])) with
              | no => rw [z3] at q'; exact q'
              | ex C fs e4 => rw [z3] at q'; exact fun σ' F' H' fp' dx s => q' σ' F' H' fp' dx ((s2.trans (s.frame _)).less fun b hb => Or.inl hb)
              | ok fl e4 =>
                rw [z3] at q'
                have again : ∀ σ4 F4 H4 fp4, Stp F' H' (Pf (put fp' i l)) F4 H4 (Pf fp4) → SS X.K bv e4 σ4 F4 H4 fp4 → AtS X.K W bv (loopM i g (ms.drop (k + 1))) e4 σ4 F H fp D → ms.length - (k + 1) = ms.length - (k + 1) ∧ k + 1 ≤ ms.length ∧ ∃ e' F' fp' fq, SS X.K bv e' σ4 F' H4 fp' ∧ H4 a = some (.lst vs) ∧ ¬ Pf fp' a ∧ F' a = none ∧ a ∉ fq ∧ OwnL X.K F' H4 (vs.drop (k + 1)) (ms.drop (k + 1)) fq ∧ fq.Nodup ∧ (∀ b ∈ fq, ¬ Pf fp' b) ∧ (∀ b ∈ fq, F' b = none) ∧ Stp F H (Pf fp) F' H4 (fun b => Pf fp' b ∨ b ∈ fq) ∧ AtS X.K W bv (loopM i g (ms.drop (k + 1))) e' σ4 F H fp D := fun σ4 F4 H4 fp4 s4 S4 q4 => by
                  have ka := s4.off ha' (out2 a na' al) fa' (fun ws h => by cases h)
                  have kr : ∀ b ∈ r, ∀ u, H' b = some u → H4 b = some u ∧ F4 b = none ∧ ¬ Pf fp4 b := fun b hb u hu =>
                    s4.off hu (out2 b (dj' b (List.mem_append_right _ hb)) fun z => nl.2.2 b z b hb rfl) (fr' b (List.mem_append_right _ hb)) fun ws hw => o2.ntup b hb ws (by rw [hu, hw])
                  refine ⟨rfl, hlt, e4, F4, fp4, r, S4, ka.1, ka.2.2, ka.2.1, (fun z => nq' (List.mem_append_right _ z)), o2.mono s4.ext fun b hb u hu => (kr b hb u hu).1, nl.2.1, fun b hb => ?_, fun b hb => ?_, s2.trans (s4.frame _), q4⟩
                  · obtain ⟨u, hu⟩ := o2.live b hb
                    exact (kr b hb u hu).2.2
                  · obtain ⟨u, hu⟩ := o2.live b hb
                    exact (kr b hb u hu).2.1
                cases fl with
                | nxt => exact fun σ4 F4 H4 fp4 s4 S4 => again σ4 F4 H4 fp4 s4 S4 q'
                | cnt => exact fun σ4 F4 H4 fp4 s4 S4 => again σ4 F4 H4 fp4 s4 S4 q'
                | brk => exact fun σ4 F4 H4 fp4 s4 S4 => q' σ4 F4 H4 fp4 ((s2.trans (s4.frame _)).less fun b hb => Or.inl hb) S4
                | ret m => exact fun v σ4 F4 H4 fp4 P4 s4 S4 => q' v σ4 F4 H4 fp4 P4 ((s2.trans (s4.frame _)).less fun b hb => Or.inl hb) S4
            · rw [if_neg hie] at q'
              exact q'.elim
        · have ek : k = ms.length := by omega
          subst ek
          rw [List.drop_length] at q'
          exact .inl ⟨⟨_, SqL.of ha', by omega⟩, q' σ' F' H' fp' (s'.less fun b hb => Or.inl hb) S'⟩
    | _ => exact q1.elim
end
end FD

/-! FD: what stands at a place is changed and takes other things in. -/
namespace FD
open PySem L2
section
variable {K : PySem.W.Frag} {bv : Nat → Option V} {e : Env} {σ : L2.St} {F H : Hp} {fp : Nat → List Addr} {i : Nat} {π : Way}
theorem SS.take {m' : M} {fpr : List Addr} (S : SS K bv e σ F H fp) (h : pgM i π e = some m') (dj : ∀ a ∈ fpr, ¬ Pf fp a) (fr : ∀ a ∈ fpr, F a = none) :
    ∃ v v' l, σ[i]? = some (some v) ∧ PathV K H π v v' ∧ Own K F H v' m' l ∧ (∀ a ∈ l, a ∈ fp i) ∧ l.Nodup ∧ ∀ H' n l'', (∀ b u, H b = some u → b ∉ l → H' b = some u) → (∀ b, H' b = none → H b = none) → Sub F H' →
      (∀ b ∈ l'', b ∈ l ∨ b ∈ fpr ∨ H b = none) → l''.Nodup → Own K F H' v' n l'' → ∃ fp', SS K bv (psM i π n e) σ F H' fp' ∧ Stp F H (fun b => Pf fp b ∨ b ∈ fpr) F H' (Pf fp') := by
  obtain ⟨m, he, hg⟩ := pgM_some h
  obtain ⟨v, v', l, r, h1, h2, h3, h4, h5⟩ := S.focus he hg
  have lin : ∀ a ∈ l, a ∈ fp i := fun a ha => h4.mem_iff.mpr (List.mem_append_left _ ha)
  have rin : ∀ a ∈ r, a ∈ fp i := fun a ha => h4.mem_iff.mpr (List.mem_append_right _ ha)
  have ndl : (l ++ r).Nodup := h4.nodup_iff.mp (S.nd i)
  have lr : ∀ a ∈ l, a ∉ r := fun a hl ha => (List.nodup_append.mp ndl).2.2 a hl a ha rfl
  refine ⟨v, v', l, h1, h2, h3, lin, (List.nodup_append.mp ndl).1, fun H' n l'' kp lv sub inl nd'' o'' => ?_⟩
  have live : ∀ j b, b ∈ fp j → H b ≠ none := fun j b hb z => by
    obtain ⟨u, hu⟩ := S.live hb
    rw [z] at hu; cases hu
  obtain ⟨fp', p, S'⟩ := h5 F H' n l'' (Sub.refl F) sub (fun b hb u hu => kp b u hu fun z => lr b z hb) (fun b hb => S.fr i b (rin b hb))
    (fun j nj b hb u hu => kp b u hu fun z => nj (S.dj j i b hb (lin b z))) (fun j _ b hb => S.fr j b hb) o'' nd''
    (fun b hb => by
      rcases inl b hb with z | z | z
      · exact S.fr i b (lin b z)
      · exact fr b z
      · exact S.sub.non z)
    (fun b hb z => by
      rcases inl b hb with y | y | y
      · exact lr b y z
      · exact dj b y ⟨i, rin b z⟩
      · exact live i b (rin b z) y)
    (fun j nj b hb z => by
      rcases inl b z with y | y | y
      · exact nj (S.dj j i b hb (lin b y))
      · exact dj b y ⟨j, hb⟩
      · exact live j b hb y)
  refine ⟨FD.put fp i fp', by rw [psM_eq he]; exact S', Sub.refl F, fun b u hb nb _ => kp b u hb fun z => nb (.inl ⟨i, lin b z⟩), lv, fun b hb => .inl hb, fun b ⟨j, hj⟩ => ?_⟩
  by_cases nj : j = i
  · subst nj
    rw [put_same] at hj
    rcases List.mem_append.mp (p.mem_iff.mp hj) with z | z
    · rcases inl b z with y | y | y
      · exact .inl (.inl ⟨j, lin b y⟩)
      · exact .inl (.inr y)
      · exact .inr y
    · exact .inl (.inl ⟨j, rin b z⟩)
  · rw [put_ne nj] at hj
    exact .inl (.inl ⟨j, hj⟩)
theorem OwnL.snocM {F' H' : Hp} {v : V} {m : M} {l : List Addr} (o : Own K F H v m l) : ∀ {vs : List V} {ms : List M} {fq : List Addr}, OwnL K F H vs ms fq → OwnL K F H (vs ++ [v]) (ms ++ [m]) (fq ++ l)
  | _, _, _, .nil => by
    have := OwnL.cons o .nil
    rw [List.append_nil] at this
    exact this
  | _, _, _, .cons h r => by
    rw [List.append_assoc]
    exact .cons h (OwnL.snocM (F' := F') (H' := H') o r)
end
/-! ### xs.append(a thing to own) -/
def appO (i : Nat) (m : M) : EM Flow := fun e => match e[i]? with
  | some (some (.ls ms)) => if few (ms.length + 1) then .ok .nxt (e.set i (some (.ls (ms ++ [m])))) else .no
  | _ => .no
def appOS (i : Nat) (f : EM M) : EM Flow := fun e => if isLs i e then bnd f (fun m => appO i m) e else .no
section
variable {X : Cx} {W : WX} {bv : Nat → Option V} {pos p px apos : Pos} {a b o : Expr} {es : List Expr} {fa fb : EM D} {fm : EM M} {x : Str}
theorem ds_appO (i : Nat) (h : DM X W bv a fm) (hN : X.N[i]? = some x := by rfl) (hv : Vis X.env.scope x := by first | exact Or.inl rfl | exact Or.inr (Or.inl rfl) | exact Or.inr (Or.inr rfl)) (hd : (x == ("__debug__" : Str)) = false := by decide) (hcd : (x == ("__classdict__" : Str)) = false := by decide)
    (hbase : attributeBase (.Name x px) "append" X.env (eval (.Name x px) X.env) = eval (.Name x px) X.env := by rfl)
    (hfew : ((backTo p (starEach [a] X.env)).all (fun x => !x.1) && (backToKw p (keywordEach [] X.env)).all (fun x => x.1.isSome) && decide (([a] : List Expr).length + ([] : List Keyword).length + (if ([] : List Keyword).isEmpty then 0 else 1) < 30)) = true := by rfl)
    (hline : (apos.endLine == p.line) = true := by rfl) (hs : starEach [a] X.env = (false, eval a X.env) :: starEach [] X.env := by rfl) (hpl : (backTo p (starEach [] X.env)).any (·.1) = false := by rfl)
    (hsw : swapsWith (.Call (.Attribute (.Name x px) "append" apos) [a] [] p) none pos.line X.env = pure false := by rfl) :
    DS X W bv (.Expr (.Call (.Attribute (.Name x px) "append" apos) [a] [] p) pos) (appOS i fm) :=
  ps_imp (ps_expr (pe_bm PySem.F.plainAttrs_list PySem.F.slot_list_append PySem.F.type_list_append mt_append (pe_var hN hv hd hcd) (pa_cons h pa_nil hs) hbase hfew hline hs hpl) hsw) fun D σ H ⟨e, F, fp, S, q⟩ => by
    unfold AtS appOS at q
    by_cases hl : isLs i e = true
    · rw [if_pos hl] at q
      obtain ⟨ms, he⟩ := isLs_at hl
      obtain ⟨a0, vs, fpl, h1, h2, _⟩ := S.lsAt he
      refine ⟨_, h1, .inl ⟨rfl, _, SqL.of h2⟩, ?_⟩
      refine tG.mono (AtS.bndM S q) fun v H1 ⟨m, e1, F1, fp1, P1, _, s1, S1, r1, q1⟩ => ?_
      unfold AtS appO at q1
      split at q1
      rotate_left
      exact q1.elim
      rename_i ms1 he1
      split at q1
      rotate_left
      exact q1.elim
      rename_i hz
      obtain ⟨fpr, hP, ow, nd, dj, fr⟩ := r1
      subst hP
      obtain ⟨w, w', l, g1, g2, g3, g4, g5, g6⟩ := S1.take (i := i) (π := []) (m' := .ls ms1) (by unfold pgM; rw [he1]; rfl) dj fr
      rw [h1] at g1
      cases g1
      cases (show w' = _ from g2)
      cases g3 with
      | ls ha ol =>
        rename_i vs1 fq
        have hlen := ol.length
        have hz' := few_le hz
        refine ⟨_, _, _, rfl, rfl, ha, by omega, ?_⟩
        have n0 : ∀ b ∈ fpr, b ≠ a0 := fun b hb z => dj b hb ⟨i, g4 b (by rw [z]; exact List.mem_cons_self)⟩
        have n1 : ∀ b ∈ fq, b ≠ a0 := fun b hb z => (List.nodup_cons.mp g5).1 (by rw [← z]; exact hb)
        have fa0 : F1 a0 = none := S1.fr i a0 (g4 a0 List.mem_cons_self)
        obtain ⟨fp', S2, s2⟩ := g6 (upd H1 a0 (.lst (vs1 ++ [v]))) (.ls (ms1 ++ [m])) (a0 :: (fq ++ fpr)) (fun b u hu nb => by rw [upd_ne fun z => nb (by rw [z]; exact List.mem_cons_self)]; exact hu)
          (fun b hb => by
            by_cases z : b = a0
            · rw [z, upd_same] at hb; cases hb
            · rw [upd_ne z] at hb; exact hb) (S1.sub.mut fa0)
          (fun b hb => by
            rcases List.mem_cons.mp hb with z | z
            · exact .inl (by rw [z]; exact List.mem_cons_self)
            · exact (List.mem_append.mp z).elim (fun y => .inl (List.mem_cons_of_mem _ y)) fun y => .inr (.inl y))
          (List.nodup_cons.mpr ⟨fun z => (List.mem_append.mp z).elim (fun y => n1 a0 y rfl) fun y => n0 a0 y rfl, List.nodup_append.mpr ⟨(List.nodup_cons.mp g5).2, nd, fun b hb c hc z => by subst z; exact dj b hc ⟨i, g4 b (List.mem_cons_of_mem _ hb)⟩⟩⟩)
          (.ls upd_same (OwnL.snocM (F' := F1) (H' := H1) (ow.mono (Sub.refl _) fun b hb w hw => by rw [upd_ne (n0 b hb)]; exact hw) (ol.mono (Sub.refl _) fun b hb w hw => by rw [upd_ne (n1 b hb)]; exact hw)))
        rw [psM_eq he1] at S2
        exact q1 σ F1 _ fp' (s1.trans s2) S2
    · rw [if_neg hl] at q
      exact q.elim
end
end FD

/-! FD: min(xs, default=None). -/
namespace FD
open PySem L2
theorem min_dflt {prog : Program} {w : World} {A : Around} {E : Value → Shared → Prop} {s : Shared} {l : Addr} {its : List Value} {ns : List Int} {d : Value} {Q : Value → Shared → Prop} (hh : A.handled = none) (hl : s.heap.IsList l its.toArray) (hi : PyProof.Rows.IntsAre its ns)
    (h0 : ns = [] → ∀ h' tk, (∀ b o, s.heap.get? b = some o → h'.get? b = some o) → Q d { s with heap := h', toks := tk })
    (h : ns ≠ [] → ∀ h' tk M t', (∀ b o, s.heap.get? b = some o → h'.get? b = some o) → M ∈ ns → (∀ a, a ∈ ns → M ≤ a) → Q (.int M t') { s with heap := h', toks := tk }) :
    wpAny (model prog w) A (call (.builtin "min") [.ref l] [(Str.ofString "default", d)]) Q E s := by
  obtain ⟨xs, e⟩ := hi.allInts.items
  have hn : numsOf (intItems xs).toList = ns := by rw [← e]; exact hi.numsOf
  rw [nums_intItems] at hn
  subst hn
  rw [e] at hl
  have hz : (intItems xs).size = xs.size := by simp [intItems]
  refine call_min_walkD (PySem.W.iter_listW (A := A.in1) hh hl fun s₂ e W st hfp hw hk => ?_)
  refine ⟨_, _, _, _, _, _, _, s.heap, _, rfl, W, st, hfp, hw, hk, fun hz0 s' m => ?_, fun hp => ⟨fun i j vi vj s3 Q3 E3 _ => CmpOf.ints_lt (numAt xs) (fun _ _ => intItems_at) i j vi vj s3 Q3 E3, fun v s' hP m => ?_⟩⟩
  · obtain ⟨h', tk, rfl, hk'⟩ := PySem.W.moved_old e rfl m
    refine h0 ?_ h' tk hk'
    have : xs.toList = [] := List.eq_nil_of_length_eq_zero (by rw [Array.length_toList]; omega)
    rw [this]; rfl
  · obtain ⟨h', tk, rfl, hk'⟩ := PySem.W.moved_old e rfl m
    rw [hz] at hp
    obtain ⟨t, rfl⟩ := intItems_at hP
    obtain ⟨h1, h2⟩ := argBest_lt (numAt xs) ((intItems xs).size - 1)
    rw [hz] at h1 h2 ⊢
    refine h (fun z => ?_) h' tk _ t hk' ?_ fun a ha => ?_
    · have := congrArg List.length z
      simp at this
      rw [this] at hp
      simp at hp
    · rw [numAt_eq]; exact PySem.getD_mem (by rw [List.length_map, Array.length_toList]; omega)
    · obtain ⟨j, hj, rfl⟩ := mem_getD ha
      rw [List.length_map, Array.length_toList] at hj
      rw [← numAt_eq]; exact h2 j (by omega)
def rMinDf (K : PySem.W.Frag) : List V → List V → Hp → VK → Prop := fun vs zs H Q => ∃ (a : Addr) (ns : List Int) (z : V), vs = [V.ref a] ∧ zs = [z] ∧ SqL K H a (ns.map V.int) ∧ (ns = [] → Q z H) ∧ (ns ≠ [] → ∀ m, m ∈ ns → (∀ y, y ∈ ns → m ≤ y) → Q (.int m) H)
theorem cr_minDf {X : Cx} (hc : X.calm = true) : CallRK X (.builtin "min") [Str.ofString "default"] (rMinDf X.K) := by
  intro pins s σ H xs zs us ws Q I r rz h
  obtain ⟨a, ns, z, rfl, rfl, hs, h0, h1⟩ := h
  obtain ⟨its, rv, hl, _⟩ := I.list hs
  rw [Vals.ref1 r]
  cases rz with
  | cons rz rn =>
    cases rn
    exact min_dflt (I.ok.hd hc) hl.isList rv.ints (fun e h' tk hk => ⟨z, H, I.kept hk, rz, h0 e⟩) fun e h' tk m t' hk k1 k2 => ⟨.int _, H, I.kept hk, ⟨_, rfl⟩, h1 e m k1 k2⟩
def minDf : D → Option D
  | .list ds => match intsOf ds with
    | some [] => some .none
    | some (n :: ns) => some (.int (ns.foldl min n))
    | none => none
  | _ => none
section
variable {X : Cx} {W : WX} {bv : Nat → Option V} {pos p kpos : Pos} {a : Expr} {fa : EM D} {cp : Pos} {j : Nat}
theorem de_minDf (h : DE X W bv a fa) (hm : X.mg "min" = none) (hc : X.calm = true := by rfl) (hg : Gl X "min" := by rfl) (hs : starEach [a] X.env = (false, eval a X.env) :: starEach [] X.env := by rfl)
    (he : backTo pos (starEach [a] X.env) = (false, eval a X.env) :: backTo pos (starEach [] X.env) := by rfl) (hpl : (backTo pos (starEach [a] X.env)).any (·.1) = false := by rfl)
    (hall : (backToKw pos (keywordEach [⟨some "default", .Constant .none j cp, kpos⟩] X.env)).all (·.1.isSome) = true := by rfl) (hnone : (backToKw pos (keywordEach [⟨some "default", .Constant .none j cp, kpos⟩] X.env)).any (·.1.isNone) = false := by rfl) (hks : (backToKw pos (keywordEach [⟨some "default", .Constant .none j cp, kpos⟩] X.env)).filterMap (·.1) = [Str.ofString "default"] := by rfl) :
    DE X W bv (.Call (.Name "min" p) [a] [⟨some "default", .Constant .none j cp, kpos⟩] pos) (bnd fa fun d => lif (minDf d)) :=
  pe_imp (pe_callBK (cr_minDf hc) hg hm rfl (pa_cons h pa_nil hs) (pk_cons pe_non pk_nil) (he := he) (hpl := hpl) (hall := hall) (hnone := hnone) (hks := hks)) fun σ H Q t =>
    tG.mono (tG.bnd (r := rD X.K) t) fun v H1 ⟨d, e1, F1, fp1, S1, r1, q1⟩ => by
      obtain ⟨d2, hd, q2⟩ := q1.lif
      cases r1 with
      | lst h1 g1 =>
        unfold minDf at hd
        dsimp only at hd
        split at hd
        · rename_i hz
          cases hd
          exact ⟨_, [], .non, rfl, rfl, by rw [← g1.ints hz]; exact S1.sub.l h1, fun _ => AtG.here (r := rD X.K) S1 q2 .non, fun z => absurd rfl z⟩
        · rename_i n ns hz
          cases hd
          refine ⟨_, n :: ns, .non, rfl, rfl, by rw [← g1.ints hz]; exact S1.sub.l h1, (fun z => by cases z), fun _ m hm hle => ?_⟩
          have : m = ns.foldl min n := by
            have hl := foldl_min_le ns n
            have hmem : ns.foldl min n ∈ n :: ns := (foldl_min_mem ns n).elim (fun e => by rw [e]; exact List.mem_cons_self) (List.mem_cons_of_mem _)
            have a1 := hle _ hmem
            have a2 : ns.foldl min n ≤ m := (List.mem_cons.mp hm).elim (fun e => by rw [e]; exact hl.1) (hl.2 m)
            omega
          rw [this]
          exact AtG.here (r := rD X.K) S1 q2 (.int _)
        · cases hd
      | _ => cases hd
end
end FD

/-! FD: place.setdefault(k, []).append(v). -/
namespace FD
open PySem L2
def updK {α : Type} (k : Key) (v : α) : List (Key × α) → List (Key × α)
  | [] => []
  | (g, x) :: r => if g = k then (g, v) :: r else (g, x) :: updK k v r
theorem updK_names {α : Type} (k : Key) (v : α) : ∀ l : List (Key × α), (updK k v l).map (·.1) = l.map (·.1)
  | [] => rfl
  | (g, x) :: r => by
    unfold updK
    split
    · rfl
    · rw [List.map_cons, List.map_cons, updK_names k v r]
theorem look_none {α β : Type} {k : Key} : ∀ {as : List (Key × α)} {bs : List (Key × β)}, as.map (·.1) = bs.map (·.1) → lookK bs k = none → lookK as k = none
  | [], [], _, _ => rfl
  | [], _ :: _, h, _ => by cases h
  | _ :: _, [], h, _ => by cases h
  | a :: as, b :: bs, h, z => by
    simp only [List.map_cons, List.cons.injEq] at h
    by_cases e : a.1 = k
    · rw [lookK_pos (h.1 ▸ e)] at z; cases z
    · rw [lookK_neg e]
      rw [lookK_neg (h.1 ▸ e)] at z
      exact look_none h.2 z
section
variable {K : PySem.W.Frag} {F H : Hp}
theorem OwnL.key {k : Key} {m : M} : ∀ {kvs : List (Key × V)} {kms : List (Key × M)} {fq : List Addr}, kvs.map (·.1) = kms.map (·.1) → OwnL K F H (kvs.map (·.2)) (kms.map (·.2)) fq → lookK kms k = some m →
    ∃ v l r, valV kvs k = some v ∧ Own K F H v m l ∧ fq.Perm (l ++ r) ∧ ∀ F' H' m' l', Sub F F' → (∀ a ∈ r, ∀ o, H a = some o → H' a = some o) → Own K F' H' v m' l' → ∃ fq', fq'.Perm (l' ++ r) ∧ OwnL K F' H' (kvs.map (·.2)) ((updK k m' kms).map (·.2)) fq'
  | [], [], _, _, _, h => by cases h
  | [], _ :: _, _, h, _, _ => by simp at h
  | _ :: _, [], _, h, _, _ => by simp at h
  | (g, x) :: fs, (g', y) :: fms, fq, hn, ho, hl => by
    simp only [List.map_cons, List.cons.injEq] at hn
    obtain ⟨rfl, hn⟩ := hn
    simp only [List.map_cons] at ho
    cases ho with
    | cons o t =>
      rename_i fp fr
      by_cases e : g = k
      · subst e
        rw [lookK_pos rfl] at hl
        cases hl
        refine ⟨x, fp, fr, valV_pos rfl, o, List.Perm.refl _, fun F' H' m' l' s k o' => ⟨l' ++ fr, List.Perm.refl _, ?_⟩⟩
        unfold updK
        rw [if_pos rfl]
        exact .cons o' (t.mono s k)
      · rw [lookK_neg e] at hl
        obtain ⟨v, l, r, h1, h2, h3, h4⟩ := OwnL.key hn t hl
        refine ⟨v, l, fp ++ r, (valV_neg e).trans h1, h2, ?_, fun F' H' m' l' s k o' => ?_⟩
        · refine (List.Perm.append_left fp h3).trans ?_
          rw [← List.append_assoc, ← List.append_assoc]
          exact List.Perm.append_right r List.perm_append_comm
        · obtain ⟨fq', p', t'⟩ := h4 F' H' m' l' s (fun a ha => k a (List.mem_append_right _ ha)) o'
          refine ⟨fp ++ fq', ?_, ?_⟩
          · refine (List.Perm.append_left fp p').trans ?_
            rw [← List.append_assoc, ← List.append_assoc]
            exact List.Perm.append_right r List.perm_append_comm
          · unfold updK
            rw [if_neg e]
            exact .cons (o.mono s fun a ha => k a (List.mem_append_left _ ha)) t'
end
theorem getP_setP : ∀ {π : Way} {m m' n : M}, getP π m = some m' → getP π (setP π m n) = some n
  | [], _, _, _, _ => rfl
  | (D, f) :: π, m, m', n, h => by
    unfold getP at h
    cases m with
    | ob C fs =>
      dsimp only at h
      split at h
      · rename_i hc
        obtain ⟨m1, h1, h2⟩ := Option.bind_eq_some_iff.mp h
        unfold setP
        dsimp only
        rw [h1]
        dsimp only
        unfold getP
        dsimp only
        rw [if_pos hc]
        have : ∀ (fs : List (Str × M)) (v : M), fs.lookup f = some m1 → (putG f v fs).lookup f = some v := by
          intro fs v hf
          induction fs with
          | nil => cases hf
          | cons a r ih =>
            obtain ⟨g, x⟩ := a
            unfold putG
            by_cases e : g = f
            · subst e
              rw [if_pos rfl, List.lookup_cons, beq_self_eq_true]
            · rw [if_neg e, List.lookup_cons, show (f == g) = false by simpa using Ne.symm e]
              rw [List.lookup_cons, show (f == g) = false by simpa using Ne.symm e] at hf
              exact ih hf
        rw [this fs _ h1]
        exact getP_setP h2
      · cases h
    | _ => cases h
theorem pgM_psM {i : Nat} {π : Way} {e : Env} {m n : M} (h : pgM i π e = some m) : pgM i π (psM i π n e) = some n := by
  obtain ⟨m0, he, hg⟩ := pgM_some h
  rw [psM_eq he]
  unfold pgM
  rw [List.getElem?_set_self (List.getElem?_eq_some_iff.mp he).1]
  exact getP_setP hg
def sdApp (i : Nat) (π : Way) (gk gv : Env → Option D) : EM Flow := fun e => match pgM i π e, (gk e).bind kOf with
  | some (.dk kms), some k => if few (kms.length + 1) then (match lookK kms k with
    | some (.ls ms) => match gv e with
      | some d => if few (ms.length + 1) then .ok .nxt (psM i π (.dk (updK k (.ls (ms ++ [.im d])) kms)) e) else .no
      | none => .no
    | some _ => .no
    | none => match gv (psM i π (.dk (kms ++ [(k, .ls [])])) e) with
      | some d => .ok .nxt (psM i π (.dk (kms ++ [(k, .ls [.im d])])) (psM i π (.dk (kms ++ [(k, .ls [])])) e))
      | none => .no) else .no
  | _, _ => .no
theorem sdApp_some {K : PySem.W.Frag} {W : WX} {bv : Nat → Option V} {e : Env} {σ : L2.St} {F H : Hp} {fp : Nat → List Addr} {i : Nat} {π : Way} {gk gv : Env → Option D} {D : Ends} (q : AtS K W bv (sdApp i π gk gv) e σ F H fp D) :
    ∃ kms y k, pgM i π e = some (.dk kms) ∧ gk e = some y ∧ kOf y = some k ∧ few (kms.length + 1) = true ∧
      ((∃ ms d, lookK kms k = some (.ls ms) ∧ gv e = some d ∧ few (ms.length + 1) = true ∧ ∀ F' H' fp', Stp F H (Pf fp) F' H' (Pf fp') → SS K bv (psM i π (.dk (updK k (.ls (ms ++ [.im d])) kms)) e) σ F' H' fp' → D.nx σ H') ∨
       ∃ d, lookK kms k = none ∧ gv (psM i π (.dk (kms ++ [(k, .ls [])])) e) = some d ∧ ∀ F' H' fp', Stp F H (Pf fp) F' H' (Pf fp') → SS K bv (psM i π (.dk (kms ++ [(k, .ls [.im d])])) (psM i π (.dk (kms ++ [(k, .ls [])])) e)) σ F' H' fp' → D.nx σ H') := by
  unfold AtS sdApp at q
  cases h1 : pgM i π e with
  | none => rw [h1] at q; exact q.elim
  | some m =>
    rw [h1] at q
    cases h2 : (gk e).bind kOf with
    | none => rw [h2] at q; cases m <;> exact q.elim
    | some k =>
      rw [h2] at q
      obtain ⟨y, hy, hk⟩ := Option.bind_eq_some_iff.mp h2
      cases m with
      | dk kms =>
        dsimp only at q
        by_cases hz : few (kms.length + 1) = true
        · rw [if_pos hz] at q
          refine ⟨kms, y, k, rfl, hy, hk, hz, ?_⟩
          cases h3 : lookK kms k with
          | none =>
            rw [h3] at q
            dsimp only at q
            cases h4 : gv (psM i π (.dk (kms ++ [(k, .ls [])])) e) with
            | none => rw [h4] at q; exact q.elim
            | some d => rw [h4] at q; exact .inr ⟨d, rfl, rfl, fun F' H' fp' s S => q σ F' H' fp' s S⟩
          | some m3 =>
            rw [h3] at q
            cases m3 with
            | ls ms =>
              dsimp only at q
              cases h4 : gv e with
              | none => rw [h4] at q; exact q.elim
              | some d =>
                rw [h4] at q
                dsimp only at q
                by_cases hm : few (ms.length + 1) = true
                · rw [if_pos hm] at q
                  exact .inl ⟨ms, d, rfl, rfl, hm, fun F' H' fp' s S => q σ F' H' fp' s S⟩
                · rw [if_neg hm] at q; exact q.elim
            | _ => exact q.elim
        · rw [if_neg hz] at q
          exact q.elim
      | _ => exact q.elim
theorem Stp.fresh {F H : Hp} {p : Addr} {o : HO} (hp : H p = none) : Stp F H noP F (upd H p o) noP :=
  ⟨Sub.refl F, fun a u h _ _ => by rw [upd_ne (ne_of_none h hp)]; exact h, fun a h => by
    by_cases e : a = p
    · subst e; exact hp
    · rw [upd_ne e] at h; exact h, fun a h => .inl h, fun a h => h.elim⟩
end FD

/-! FD: place.setdefault(k, []).append(v): the rule. -/
namespace FD
open PySem L2
theorem valV_look {k : Key} (kvs : List (Key × V)) : valV kvs k = lookK kvs k := rfl
theorem putK_new {k : Key} {v : V} {kvs : List (Key × V)} (h : valV kvs k = none) : putK kvs k v = kvs ++ [(k, v)] := by
  unfold putK
  rw [if_neg]
  intro z
  unfold valV at h
  rw [Option.map_eq_none_iff, List.find?_eq_none] at h
  obtain ⟨x, hx, hk⟩ := List.any_eq_true.mp z
  exact h x hx hk
theorem look_snoc {α : Type} {k : Key} {x : α} : ∀ {l : List (Key × α)}, lookK l k = none → lookK (l ++ [(k, x)]) k = some x
  | [], _ => lookK_pos rfl
  | a :: l, h => by
    by_cases e : a.1 = k
    · rw [lookK_pos e] at h; cases h
    · rw [lookK_neg e] at h
      rw [List.cons_append, lookK_neg e]
      exact look_snoc h
theorem updK_snoc {α : Type} {k : Key} {x y : α} : ∀ {l : List (Key × α)}, lookK l k = none → updK k y (l ++ [(k, x)]) = l ++ [(k, y)]
  | [], _ => by simp [updK]
  | (g, z) :: l, h => by
    by_cases e : g = k
    · rw [lookK_pos e] at h; cases h
    · rw [lookK_neg e] at h
      rw [List.cons_append, updK, if_neg e, updK_snoc h]
      rfl
theorem PathV.upd {K : PySem.W.Frag} {H : Hp} {a0 : Addr} {o : HO} (n : ∀ ca dx fs, H a0 ≠ some (.ins ca dx fs)) : ∀ {π : Way} {v v' : V}, PathV K H π v v' → PathV K (L2.upd H a0 o) π v v'
  | [], _, _, h => h
  | (C, f) :: π, v, v', h => by
    obtain ⟨a, ca, dx, fs, u, e1, e2, e3, e4, e5⟩ := h
    refine ⟨a, ca, dx, fs, u, e1, e2, ?_, e4, PathV.upd n e5⟩
    rw [upd_ne fun z => n ca dx fs (by rw [← z]; exact e3)]
    exact e3
theorem Stp.nil {F H F' H' : Hp} {P P' : Addr → Prop} (s : Stp F H (fun b => P b ∨ b ∈ ([] : List Addr)) F' H' P') : Stp F H P F' H' P' :=
  ⟨s.ext, fun c u h n f => s.keep c u h (fun z => n (z.elim id fun y => by cases y)) f, s.live, fun c h => (s.newF c h).imp id (Or.imp (fun z => z.elim id fun y => by cases y) id), fun c h => (s.newP c h).imp (fun z => z.elim id fun y => by cases y) id⟩
/-- a list within an owned dict takes one more -/
theorem sd_inner {K : PySem.W.Frag} {bv : Nat → Option V} {e : Env} {σ : L2.St} {F H : Hp} {fp : Nat → List Addr} {i : Nat} {π : Way} {kms : List (Key × M)} {v vi w : V} {a0 : Addr} {kvs : List (Key × V)} {k : Key} {ms : List M} {d : D} (S : SS K bv e σ F H fp) (hp : pgM i π e = some (.dk kms)) (h1 : σ[i]? = some (some v)) (pv : PathV K H π v (.ref a0)) (hd : H a0 = some (.dK kvs)) (hlk : lookK kms k = some (.ls ms)) (hvi : valV kvs k = some vi) (r : Rp K F w d) :
    ∃ q0 vs, vi = .ref q0 ∧ H q0 = some (.lst vs) ∧ vs.length = ms.length ∧ ∃ fp', SS K bv (psM i π (.dk (updK k (.ls (ms ++ [.im d])) kms)) e) σ F (upd H q0 (.lst (vs ++ [w]))) fp' ∧ Stp F H (Pf fp) F (upd H q0 (.lst (vs ++ [w]))) (Pf fp') := by
  obtain ⟨u3, u3', l3, j1, j2, j3, j4, j5, j6⟩ := S.take (fpr := []) hp (fun _ h => by cases h) (fun _ h => by cases h)
  rw [h1] at j1
  cases j1
  have eu := PathV.uniq pv j2
  subst eu
  cases j3 with
  | @dk _ kvs3 _ fq3 hd3' hn3 ro3 =>
    rw [hd] at hd3'
    cases hd3'
    obtain ⟨v1', li', ri', n1, n2, n3, n4⟩ := OwnL.key hn3 ro3 hlk
    rw [hvi] at n1
    cases n1
    cases n2 with
    | @ls q0 vs3 _ fqi3 hl3 ol3 =>
      have ndq : fq3.Nodup := (List.nodup_cons.mp j5).2
      have ndp : ((q0 :: fqi3) ++ ri').Nodup := n3.nodup_iff.mp ndq
      have q0a : q0 ≠ a0 := fun z => (List.nodup_cons.mp j5).1 (by rw [← z]; exact n3.mem_iff.mpr (List.mem_append_left _ List.mem_cons_self))
      have q0l : q0 ∈ a0 :: fq3 := List.mem_cons_of_mem _ (n3.mem_iff.mpr (List.mem_append_left _ List.mem_cons_self))
      have q0f : F q0 = none := S.fr i q0 (j4 q0 q0l)
      have oi : Own K F (upd H q0 (.lst (vs3 ++ [w]))) (.ref q0) (.ls (ms ++ [.im d])) (q0 :: fqi3) := .ls upd_same ((ol3.snoc r).other (List.nodup_cons.mp (List.nodup_append.mp ndp).1).1)
      obtain ⟨fq', p', ro'⟩ := n4 F (upd H q0 (.lst (vs3 ++ [w]))) _ _ (Sub.refl _) (fun c hc u hu => by rw [upd_ne fun z => (List.nodup_append.mp ndp).2.2 q0 List.mem_cons_self c hc z.symm]; exact hu) oi
      obtain ⟨fp', S4, s4⟩ := j6 (upd H q0 (.lst (vs3 ++ [w]))) (.dk (updK k (.ls (ms ++ [.im d])) kms)) (a0 :: fq') (fun c u hu nc => by rw [upd_ne fun z => nc (by rw [z]; exact q0l)]; exact hu)
        (fun c hc => by
          by_cases z : c = q0
          · rw [z, upd_same] at hc; cases hc
          · rw [upd_ne z] at hc; exact hc) (S.sub.mut q0f)
        (fun c hc => .inl (by
          rcases List.mem_cons.mp hc with z | z
          · rw [z]; exact List.mem_cons_self
          · exact List.mem_cons_of_mem _ (n3.mem_iff.mpr (p'.mem_iff.mp z))))
        (List.nodup_cons.mpr ⟨fun z => (List.nodup_cons.mp j5).1 (n3.mem_iff.mpr (p'.mem_iff.mp z)), (p'.trans n3.symm).nodup_iff.mpr ndq⟩)
        (.dk (kvs := kvs) (by rw [upd_ne (Ne.symm q0a)]; exact hd) (by rw [updK_names]; exact hn3) ro')
      exact ⟨q0, vs3, rfl, hl3, ol3.length, fp', S4, s4.nil⟩
section
variable {X : Cx} {W : WX} {bv : Nat → Option V} {pos p lp apos bpos cpos : Pos} {a b o : Expr} {ga gb : Env → Option D} {i : Nat} {π : Way}
theorem ds_sdApp (ho : PL X o i π) (hk : DQ X bv b gb) (hv : DQ X bv a ga)
    (hm : M2 X o "setdefault" bpos b (.List [] lp) cpos)
    (hbase : attributeBase (.Call (.Attribute o "setdefault" bpos) [b, .List [] lp] [] cpos) "append" X.env (eval (.Call (.Attribute o "setdefault" bpos) [b, .List [] lp] [] cpos) X.env) = eval (.Call (.Attribute o "setdefault" bpos) [b, .List [] lp] [] cpos) X.env := by rfl)
    (hfew : ((backTo p (starEach [a] X.env)).all (fun x => !x.1) && (backToKw p (keywordEach [] X.env)).all (fun x => x.1.isSome) && decide (([a] : List Expr).length + ([] : List Keyword).length + (if ([] : List Keyword).isEmpty then 0 else 1) < 30)) = true := by rfl)
    (hline : (apos.endLine == p.line) = true := by rfl) (hs : starEach [a] X.env = (false, eval a X.env) :: starEach [] X.env := by rfl) (hpl : (backTo p (starEach [] X.env)).any (·.1) = false := by rfl)
    (hsw : swapsWith (.Call (.Attribute (.Call (.Attribute o "setdefault" bpos) [b, .List [] lp] [] cpos) "append" apos) [a] [] p) none pos.line X.env = pure false := by rfl) :
    DS X W bv (.Expr (.Call (.Attribute (.Call (.Attribute o "setdefault" bpos) [b, .List [] lp] [] cpos) "append" apos) [a] [] p) pos) (sdApp i π gb ga) :=
  ps_imp (ps_expr (pe_bm PySem.F.plainAttrs_list PySem.F.slot_list_append PySem.F.type_list_append mt_append (pe_dsetd ho hk (pe_lst pa_nil) hm) (pa_cons hv pa_nil hs) hbase hfew hline hs hpl) hsw) fun D σ H ⟨e, F, fp, S, q⟩ => by
    obtain ⟨kms, y, k, hp, hy, hky, hz, qq⟩ := sdApp_some q
    obtain ⟨v, v', l0, h1, h2, h3, _⟩ := S.at hp
    cases h3 with
    | @dk a0 kvs0 _ fq0 hd hn0 ro0 =>
      refine ⟨v, _, h1, h2, a0, rfl, .inl ⟨_, .inl hd⟩, e, F, fp, S, y, hy, fun w F1 H1 s1 S1 r1 => ⟨Nat.zero_le _, fun pl hpl => ?_⟩⟩
      have s2 : Stp F1 H1 noP F1 (upd H1 pl (.lst [])) noP := Stp.fresh hpl
      have S2 := S1.quiet s2 (S1.sub.mut (S1.sub.non hpl))
      obtain ⟨pv2, _⟩ := S.still hp h1 h2 (s1.trans s2) S2
      have lv1 : ∀ j c, c ∈ fp j → c ≠ pl := fun j c hc z => by
        obtain ⟨u, hu⟩ := S1.live hc
        rw [z, hpl] at hu; cases hu
      have ek := r1.key hky
      subst ek
      obtain ⟨u2, u2', l2, g1, g2, g3, g4, g5, g6⟩ := S2.take (fpr := []) hp (fun _ h => by cases h) (fun _ h => by cases h)
      rw [h1] at g1
      cases g1
      have eu := PathV.uniq pv2 g2
      subst eu
      cases g3 with
      | @dk _ kvs _ fq hd2 hn2 ro2 =>
        have hlen : kvs.length = kms.length := by have := congrArg List.length hn2; simpa using this
        have hz' := few_le hz
        have a0fp : a0 ∈ fp i := g4 a0 List.mem_cons_self
        refine ⟨kvs, k, hd2, rfl, by omega, fun vi hvi => ?_, fun hvn => ?_⟩
        · rcases qq with ⟨ms, d, hlk, hgv, hfm, q⟩ | ⟨d, hlk, _⟩
          · obtain ⟨v1, li, ri, k1, k2, k3, k4⟩ := OwnL.key hn2 ro2 hlk
            rw [hvi] at k1
            cases k1
            cases k2 with
            | @ls q0 vs1 _ fqi hl1 ol1 =>
              refine ⟨.inl ⟨rfl, _, SqL.of hl1⟩, e, F1, fp, S2, d, hgv, fun w3 F3 H3 s3 S3 r3 => ?_⟩
              have inl : ∀ c, c ∈ q0 :: fqi → c ∈ fp i := fun c hc => g4 c (List.mem_cons_of_mem _ (k3.mem_iff.mpr (List.mem_append_left _ hc)))
              obtain ⟨pv3, _⟩ := S2.still hp h1 pv2 s3 S3
              have hd3 : H3 a0 = some (.dK kvs) := s3.keep a0 _ hd2 (fun z => z) (.inl (S2.fr i a0 a0fp))
              obtain ⟨q1, vs3, e1, hl3, hlen3, fp', S4, s4⟩ := sd_inner S3 hp h1 pv3 hd3 hlk hvi r3
              cases e1
              have hfm' := few_le hfm
              exact ⟨_, vs3, w3, rfl, rfl, hl3, by omega, q F3 _ fp' ((s1.trans (s2.trans s3)).loud.trans s4) S4⟩
          · exact absurd (look_none hn2 hlk) (by rw [← valV_look, hvi]; intro z; cases z)
        · rcases qq with ⟨ms, d, hlk, _⟩ | ⟨d, hlk, hgv, q⟩
          · obtain ⟨v1, _, _, k1, _⟩ := OwnL.key hn2 ro2 hlk
            rw [hvn] at k1; cases k1
          · rw [putK_new hvn]
            have ne : ∀ c ∈ fq, c ≠ a0 := fun c hc z => (List.nodup_cons.mp g5).1 (by rw [← z]; exact hc)
            have pa : pl ≠ a0 := fun z => lv1 i a0 a0fp z.symm
            have a0F : F1 a0 = none := S2.fr i a0 a0fp
            have npl : ¬ Pf fp pl := fun ⟨j, hj⟩ => lv1 j pl hj rfl
            have Fpl : F1 pl = none := S1.sub.non hpl
            obtain ⟨u3, u3', l3, j1, j2, j3, j4, j5, j6⟩ := S2.take (fpr := [pl]) hp (fun c hc => by rw [List.mem_singleton.mp hc]; exact npl) (fun c hc => by rw [List.mem_singleton.mp hc]; exact Fpl)
            rw [h1] at j1
            cases j1
            have eu := PathV.uniq pv2 j2
            subst eu
            cases j3 with
            | @dk _ kvs3 _ fq3 hd3 hn3 ro3 =>
              rw [hd2] at hd3
              cases hd3
              have ne : ∀ c ∈ fq3, c ≠ a0 := fun c hc z => (List.nodup_cons.mp j5).1 (by rw [← z]; exact hc)
              have nep : ∀ c ∈ fq3, c ≠ pl := fun c hc => lv1 i c (j4 c (List.mem_cons_of_mem _ hc))
              have hv3 : upd H1 pl (HO.lst []) pl = some (.lst []) := upd_same
              obtain ⟨fp3, S3, s3⟩ := j6 (upd (upd H1 pl (.lst [])) a0 (.dK (kvs ++ [(k, .ref pl)]))) (.dk (kms ++ [(k, .ls [])])) (a0 :: (fq3 ++ [pl])) (fun c u hu nc => by rw [upd_ne fun z => nc (by rw [z]; exact List.mem_cons_self)]; exact hu)
                (fun c hc => by
                  by_cases z : c = a0
                  · rw [z, upd_same] at hc; cases hc
                  · rw [upd_ne z] at hc; exact hc) (S2.sub.mut a0F)
                (fun c hc => by
                  rcases List.mem_cons.mp hc with z | z
                  · exact .inl (by rw [z]; exact List.mem_cons_self)
                  · exact (List.mem_append.mp z).elim (fun y => .inl (List.mem_cons_of_mem _ y)) fun y => .inr (.inl y))
                (List.nodup_cons.mpr ⟨fun z => (List.mem_append.mp z).elim (fun y => ne a0 y rfl) fun y => pa (List.mem_singleton.mp y).symm, List.nodup_append.mpr ⟨(List.nodup_cons.mp j5).2, by simp, fun c hc c' hc' z => nep c hc (by rw [z]; exact List.mem_singleton.mp hc')⟩⟩)
                (.dk (kvs := kvs ++ [(k, .ref pl)]) upd_same (by rw [List.map_append, List.map_append, hn3]; rfl) (by
                  rw [List.map_append, List.map_append]
                  exact OwnL.snocM (F' := F1) (H' := H1) (.ls (fp := []) (by rw [upd_ne pa]; exact hv3) .nil) (ro3.mono (Sub.refl _) fun c hc u hu => by rw [upd_ne (ne c hc)]; exact hu)))
              have e3 : pgM i π (psM i π (.dk (kms ++ [(k, .ls [])])) e) = some (.dk (kms ++ [(k, .ls [])])) := pgM_psM hp
              have s03 : Stp F H (Pf fp) F1 (upd (upd H1 pl (.lst [])) a0 (.dK (kvs ++ [(k, .ref pl)]))) (Pf fp3) := by
                refine Stp.trans (P1 := fun c => Pf fp c ∨ c ∈ [pl]) ?_ s3
                have t := (s1.trans s2).loud (P := Pf fp)
                exact ⟨t.ext, t.keep, t.live, t.newF, fun c hc => hc.elim .inl fun z => .inr (by rw [List.mem_singleton.mp z]; exact s1.live pl hpl)⟩
              refine ⟨.inl ⟨rfl, _, SqL.of (by rw [upd_ne pa]; exact hv3)⟩, _, F1, fp3, S3, d, hgv, fun w4 F4 H4 s4 S4 r4 => ?_⟩
              have pv3 : PathV X.K (L2.upd (L2.upd H1 pl (.lst [])) a0 (.dK (kvs ++ [(k, .ref pl)]))) π v (.ref a0) := pv2.upd (fun ca dx fs z => by rw [hd2] at z; cases z)
              obtain ⟨pv4, _⟩ := S3.still e3 h1 pv3 s4 S4
              have hd4 : H4 a0 = some (.dK (kvs ++ [(k, .ref pl)])) := s4.keep a0 _ upd_same (fun z => z) (.inl a0F)
              obtain ⟨q1, vs3, e1, hl3, hlen3, fp', S5, s5⟩ := sd_inner S4 e3 h1 pv4 hd4 (look_snoc hlk) (look_snoc hvn) r4
              cases e1
              have hfm' := few_le hz
              have hl0 : vs3.length = 0 := hlen3
              rw [updK_snoc hlk] at S5
              exact ⟨_, vs3, w4, rfl, rfl, hl3, by omega, q F4 _ fp' (s03.trans (s4.loud.trans s5)) S5⟩
end
end FD

/-! FD: two tests of a comprehension, join, temporaries. -/
namespace FD
open PySem L2
section
variable {X : Cx} {W : WX} {bv : Nat → Option V} {pos p apos : Pos} {a b o : Expr} {es : List Expr} {fa fb : EM D} {ta tb : EM Bool} {fm : EM M} {gs : Env → Option (List D)} {C f m : Str} {k : Nat} {ps : List Str} {Fs : List M → FOut}
theorem pts_two {X : Cx} {c1 c2 : Expr} {t1 t2 : TT} (h1 : PT X c1 t1) (h2 : PT X c2 t2) : PTs X [c1, c2] (fun σ H Q => t1 σ H fun r H1 => if r = true then t2 σ H1 Q else Q false H1) := ⟨fun pins s σ H Q I hw => by
  simp only [List.forIn_cons, List.forIn_nil, if_true]
  refine wpAny_bind (wpAny_bind (wpAny_mono (h1.run pins s σ H _ I hw) (fun r s1 hr => ?_) fun _ _ x => x))
  obtain ⟨H1, I1, q1⟩ := hr
  refine wpAny_pure ?_
  cases r with
  | true =>
    rw [if_pos rfl] at q1
    refine wpAny_bind ?_
    simp only [if_true]
    exact wpAny_bind (wpAny_mono (h2.run pins s1 σ H1 _ I1 q1) (fun b s' hb => wpAny_pure (wpAny_pure hb)) fun _ _ x => x)
  | false =>
    rw [if_neg Bool.false_ne_true] at q1
    refine wpAny_bind ?_
    simp only [Bool.false_eq_true, if_false]
    exact wpAny_pure (wpAny_pure ⟨H1, I1, q1⟩)⟩
theorem dts_two {c1 c2 : Expr} (h1 : DT X W bv c1 ta) (h2 : DT X W bv c2 tb) : DTs X W bv [c1, c2] (andT ta tb) :=
  pts_imp (pts_two h1 h2) fun σ H Q t => by
    refine tG.mono (tG.bnd (r := rB) t) fun x H1 ⟨k, e1, F1, fp1, S1, r1, q1⟩ => ?_
    cases (show x = k from r1)
    cases x with
    | true => exact ⟨e1, F1, fp1, S1, q1⟩
    | false => exact AtG.here (r := rB) S1 q1 rfl
/-! ### sep.join(xs) -/
def joinD (a : Str) : D → Option D
  | .list ds => match strsOf ds with
    | some ys => if (ys.map (·.length)).sum + ys.length * a.length ≤ 16777216 then some (.str (Txt.join a ys)) else none
    | none => none
  | _ => none
theorem de_join {s : Str} {j : Nat} {sp : Pos} (h : DE X W bv a fa) (hs : starEach [a] X.env = [(false, eval a X.env)] := by rfl) (hbase : attributeBase (.Constant (.str s) j sp) "join" X.env (eval (.Constant (.str s) j sp) X.env) = eval (.Constant (.str s) j sp) X.env := by rfl) (hline : (apos.endLine == pos.line) = true := by rfl) :
    DE X W bv (.Call (.Attribute (.Constant (.str s) j sp) "join" apos) [a] [] pos) (bnd fa fun d => lif (joinD s d)) :=
  pe_imp (pe_join pe_str h hs hbase hline) fun σ H Q t => ⟨⟨_, rfl⟩, tG.mono (tG.bnd (r := rD X.K) t) fun x H1 ⟨d, e1, F1, fp1, S1, r1, q1⟩ => by
    obtain ⟨d2, hd, q2⟩ := q1.lif
    cases r1 with
    | lst h1 g1 =>
      unfold joinD at hd
      dsimp only at hd
      split at hd
      · rename_i ys hy
        split at hd
        · rename_i hz
          cases hd
          exact ⟨s, _, ys, rfl, rfl, .inl (by rw [← g1.strs hy]; exact S1.sub.l h1), hz, AtG.here (r := rD X.K) S1 q2 (.str _)⟩
        · cases hd
      · cases hd
    | _ => cases hd⟩
/-! ### what an expression makes is data from now on -/
def frzM (f : EM M) : EM D := bnd f fun m => lif m.toD
theorem frz_at {K : PySem.W.Frag} {e : Env} {σ : L2.St} {F0 H0 F H : Hp} {fp0 fp : Nat → List Addr} {v : V} {m : M} {d : D} {l fpr : List Addr} {Q : VK} (S : SS K bv e σ F H fp) (s : Stp F0 H0 (Pf fp0) F H (fun a => Pf fp a ∨ a ∈ fpr)) (o : Own K F H v m l) (hl : ∀ a ∈ l, a ∈ fpr) (dj : ∀ a ∈ fpr, ¬ Pf fp a) (fr : ∀ a ∈ fpr, F a = none) (hd : m.toD = some d)
    (q : ∀ x F' H' fp' P', Stp F0 H0 (Pf fp0) F' H' P' → SS K bv e σ F' H' fp' → smp (rD K) F' H' fp' P' x d → Q x H') : Q v H := by
  have fl : ∀ a ∈ l, F a = none := fun a ha => fr a (hl a ha)
  have rp : Rp K (ov H F l) v d := o.frozen fl hd
  refine q v (ov H F l) H fp (Pf fp) (s.trans ⟨Sub.ov fl, fun _ _ h _ _ => h, fun _ h => h, fun a ha => ?_, fun a ha => .inl (.inl ha)⟩) (S.heap (Sub.ov fl) S.sub.of_ov (fun _ _ _ _ h => h) fun j a ha => ?_) ⟨rfl, rp⟩
  · by_cases n : a ∈ l
    · exact .inr (.inl (.inr (hl a n)))
    · rw [ov_out n] at ha; exact .inl ha
  · rw [ov_out fun z => dj a (hl a z) ⟨j, ha⟩]
    exact S.fr j a ha
theorem de_frz (h : DM X W bv a fm) : DE X W bv a (frzM fm) :=
  pe_imp h fun σ H Q ⟨e, F, fp, S, q⟩ => by
    refine ⟨e, F, fp, S, ?_⟩
    unfold AtG frzM bnd at q
    unfold AtG
    cases z : fm e with
    | no => rw [z] at q; exact q
    | ex C fs e' => rw [z] at q; exact q
    | ok m e1 =>
      rw [z] at q
      intro v F1 H1 fp1 P1 s1 S1 ⟨fpr, hP, ow, nd, dj, fr⟩
      subst hP
      dsimp only at q
      cases hd : m.toD with
      | none => rw [hd] at q; exact q.elim
      | some d =>
        rw [hd] at q
        exact frz_at S1 s1 ow (fun _ h => h) dj fr hd q
/-! ### a field of what an expression makes -/
def fldT (C f : Str) (fm : EM M) : EM D := bnd fm fun m => lif (match m with
  | .ob C' fs => if C' = C then (fs.lookup f).bind M.toD else none
  | _ => none)
theorem de_fldT (at_ : Att X.K C f) (h : DM X W bv o fm) (hb : attributeBase o f X.env (eval o X.env) = eval o X.env := by rfl) : DE X W bv (.Attribute o f pos) (fldT C f fm) :=
  pe_imp (pe_fld h hb) fun σ H Q ⟨e, F, fp, S, q⟩ => by
    refine ⟨e, F, fp, S, ?_⟩
    unfold AtG fldT bnd at q
    unfold AtG
    cases z : fm e with
    | no => rw [z] at q; exact q
    | ex C fs e' => rw [z] at q; exact q
    | ok m e1 =>
      rw [z] at q
      intro v F1 H1 fp1 P1 s1 S1 ⟨fpr, hP, ow, nd, dj, fr⟩
      subst hP
      dsimp only at q
      cases ow with
      | @ob a ca dx C' fs fms fq hC ha hn ro =>
        dsimp only at q
        by_cases ec : C' = C
        · subst ec
          rw [if_pos rfl] at q
          cases hd : (fms.lookup f).bind M.toD with
          | none => rw [hd] at q; exact q.elim
          | some d =>
            rw [hd] at q
            obtain ⟨m1, h1, h2⟩ := Option.bind_eq_some_iff.mp hd
            obtain ⟨u, l, r, k1, k2, k3, _⟩ := ro.fld hn h1
            refine ⟨a, ca, dx, fs, u, rfl, ha, (at_ ca hC).1, (at_ ca hC).2, k1, ?_⟩
            exact frz_at S1 s1 k2 (fun b hb => List.mem_cons_of_mem _ (k3.mem_iff.mpr (List.mem_append_left _ hb))) dj fr h2 q
        · rw [if_neg ec] at q
          exact q.elim
      | _ => exact q.elim
/-! ### a statement that is a call -/
def exprM (f : EM M) : EM Flow := bnd f fun _ => ret .nxt
theorem ds_exprM (h : DM X W bv a fm) (hs : swapsWith a none pos.line X.env = pure false := by rfl) : DS X W bv (.Expr a pos) (exprM fm) :=
  ps_imp (ps_expr h hs) fun D σ H ⟨e, F, fp, S, q⟩ =>
    tG.mono (AtS.bndM S q) fun x H1 ⟨m, e1, F1, fp1, P1, _, s1, S1, ⟨fpr, hP, _⟩, q1⟩ => q1 σ F1 H1 fp1 (s1.less fun a ha => by rw [hP]; exact .inl ha) S1
/-! ### a method of what an expression makes -/
def methT (C m : Str) (Fs : List M → FOut) (fm : EM M) (gs : Env → Option (List D)) : EM M := bnd fm fun r => if isOb C m r then bnd (qE gs) fun ds => giveF Fs (r :: ds.map .im) else fun _ => .no
theorem dm_methT {pl : Sem Bool} (hh : HasM X.prog X.w X.K X.mg X.base k C m ps Fs) (hgd : X.A.guards = some []) (hr : Room k X.A) (hp : DM X W bv o fm) (ha : DQA X bv (a :: es) gs)
    (hst : starEach (a :: es) X.env = (false, eval a X.env) :: starEach es X.env := by rfl) (hpl : (backTo pos (starEach es X.env)).any (·.1) = false := by rfl)
    (ht : eval (.Call (.Attribute o m apos) (a :: es) [] pos) X.env = (do let ov ← eval o X.env; standAt apos.atName; let (f, first) ← holding [ov] (getMethod ov m pl); callWith pos f first (backTo pos (starEach (a :: es) X.env)) (backToKw pos (keywordEach [] X.env))) := by rfl) :
    DM X W bv (.Call (.Attribute o m apos) (a :: es) [] pos) (methT C m Fs fm gs) := by
  obtain ⟨ca, f, fd, hC, c, hm, G, hb⟩ := hh
  refine pe_imp (pe_methG (E := E0) hp c hm G hgd hr hb ha hst hpl ht) fun σ H Q ⟨e, F, fp, S, q⟩ => ?_
  refine ⟨e, F, fp, S, ?_⟩
  unfold AtG methT bnd at q
  unfold AtG
  cases z : fm e with
  | no => rw [z] at q; exact q
  | ex C fs e' => rw [z] at q; exact q
  | ok n e1 =>
    rw [z] at q
    intro v F1 H1 fp1 P1 s1 S1 ⟨fpr, hP, ow, nd, dj, fr⟩
    subst hP
    dsimp only at q
    by_cases ho : isOb C m n = true
    · rw [if_pos ho] at q
      obtain ⟨a0, dx, fs, rfl, h1, h2⟩ := isOb_own ho ow hC
      cases z2 : gs e1 with
      | none => simp only [qE, z2] at q
      | some ds =>
        simp only [qE, z2] at q
        refine ⟨a0, dx, fs, rfl, h1, h2, e1, F1, fp1, S1, ds, z2, fun vs F2 H2 s2 S2 r2 => ?_⟩
        have k2 : ∀ b ∈ fpr, ∀ u, H1 b = some u → H2 b = some u ∧ F2 b = none ∧ ¬ noP b := fun b hb u hu => s2.off hu id (fr b hb) fun ws hw => ow.ntup b hb ws (by rw [hu, hw])
        have o2 : Own X.K F2 H2 (.ref a0) n fpr := ow.mono s2.ext fun b hb u hu => (k2 b hb u hu).1
        refine give_at S2 (s1.trans ((s2.loud (P := Pf fp1)).frame fun a => a ∈ fpr)) (by simpa using OwnL.cons o2 (OwnL.ims r2)) (by simpa using nd) dj (fun b hb => ?_) q
        obtain ⟨u, hu⟩ := ow.live b hb
        exact (k2 b hb u hu).2.1
    · rw [if_neg ho] at q
      exact q.elim
end
end FD

/-! FD: a dict of lists becomes data; dicts displayed. -/
namespace FD
open PySem L2
def toDs : List M → Option (List D)
  | [] => some []
  | m :: ms => m.toD.bind fun d => (toDs ms).map (d :: ·)
def M.deep : M → Option D
  | .dk kvs => (toDs (kvs.map (·.2))).map fun ds => .dict (((kvs.map (·.1)).zip ds).map fun p => (keyD p.1, p.2))
  | m => m.toD
theorem toDs_length : ∀ {ms : List M} {ds : List D}, toDs ms = some ds → ms.length = ds.length
  | [], _, h => by cases h; rfl
  | m :: ms, ds, h => by
    obtain ⟨d, _, h2⟩ := Option.bind_eq_some_iff.mp h
    obtain ⟨r, h3, rfl⟩ := Option.map_eq_some_iff.mp h2
    rw [List.length_cons, List.length_cons, toDs_length h3]
section
variable {K : PySem.W.Frag} {F H : Hp}
theorem Sub.ovs {l' l : List Addr} (h : ∀ a ∈ l', a ∈ l) (fr : ∀ a ∈ l, F a = none) : Sub (FD.ov H F l') (FD.ov H F l) where
  rd := fun a u r => by
    by_cases n : a ∈ l'
    · exact rd_at (by rw [ov_in n, ov_in (h a n)]) r
    · by_cases n2 : a ∈ l
      · exact absurd r fun z => rd_none ((ov_out n).trans (fr a n2)) z
      · exact rd_at (by rw [ov_out n, ov_out n2]) r
  tp := fun a vs q => by
    by_cases n : a ∈ l'
    · rw [ov_in n] at q; rw [ov_in (h a n)]; exact q
    · by_cases n2 : a ∈ l
      · rw [ov_out n, fr a n2] at q; cases q
      · rw [ov_out n] at q; rw [ov_out n2]; exact q
  fz := fun a ob u q => by
    by_cases n : a ∈ l'
    · rw [ov_in n] at q; rw [ov_in (h a n)]; exact q
    · by_cases n2 : a ∈ l
      · rw [ov_out n, fr a n2] at q; cases q
      · rw [ov_out n] at q; rw [ov_out n2]; exact q
theorem OwnL.frozen {l : List Addr} (fr : ∀ a ∈ l, F a = none) : ∀ {vs : List V} {ms : List M} {ds : List D} {fq : List Addr}, OwnL K F H vs ms fq → (∀ a ∈ fq, a ∈ l) → toDs ms = some ds → RpL K (ov H F l) vs ds
  | _, _, _, _, .nil, _, h => by cases h; exact .nil
  | _, _, _, _, .cons o r, hin, h => by
    obtain ⟨d, h1, h2⟩ := Option.bind_eq_some_iff.mp h
    obtain ⟨ds, h3, rfl⟩ := Option.map_eq_some_iff.mp h2
    have i1 := fun a ha => hin a (List.mem_append_left _ ha)
    exact .cons ((o.frozen (fun a ha => fr a (i1 a ha)) h1).mono (Sub.ovs i1 fr)) (OwnL.frozen fr r (fun a ha => hin a (List.mem_append_right _ ha)) h3)
theorem Own.frozenD {v : V} {m : M} {d : D} {l : List Addr} (o : Own K F H v m l) (fr : ∀ a ∈ l, F a = none) (hd : m.deep = some d) : Rp K (ov H F l) v d := by
  cases o with
  | @dk a kvs kms fq h k r =>
    obtain ⟨ds, h1, rfl⟩ := Option.map_eq_some_iff.mp hd
    have hl : (kms.map (·.1)).length = ds.length := by
      have := toDs_length h1
      simpa using this
    refine .dK (kds := (kms.map (·.1)).zip ds) (.inl ((ov_in List.mem_cons_self).trans h)) ?_ ?_
    · rw [List.map_fst_zip (Nat.le_of_eq hl)]
      exact k
    · rw [List.map_snd_zip (Nat.le_of_eq hl.symm)]
      exact OwnL.frozen fr r (fun a ha => List.mem_cons_of_mem _ ha) h1
  | im r => exact (Own.im r).frozen fr hd
  | ls h r => exact (Own.ls h r).frozen fr hd
  | dt h k r => exact (Own.dt h k r).frozen fr hd
  | ob c h k r => cases hd
  | gone => cases hd
variable {W : WX} {bv : Nat → Option V} {e : Env} {σ : L2.St} {fp : Nat → List Addr} {i : Nat} {π : Way}
theorem SS.frzPd {m' : M} {d : D} (S : SS K bv e σ F H fp) (h : pgM i π e = some m') (hd : m'.deep = some d) :
    ∃ F' fp' v v', σ[i]? = some (some v) ∧ PathV K H π v v' ∧ Stp F H (Pf fp) F' H (Pf fp') ∧ SS K bv (psM i π (.im d) e) σ F' H fp' ∧ Rp K F' v' d := by
  obtain ⟨m, he, hg⟩ := pgM_some h
  obtain ⟨v, v', l, r, h1, h2, h3, h4, h5⟩ := S.focus he hg
  have lin : ∀ a ∈ l, a ∈ fp i := fun a ha => h4.mem_iff.mpr (List.mem_append_left _ ha)
  have rin : ∀ a ∈ r, a ∈ fp i := fun a ha => h4.mem_iff.mpr (List.mem_append_right _ ha)
  have lr : ∀ a ∈ r, a ∉ l := fun a ha hl => (List.nodup_append.mp (h4.nodup_iff.mp (S.nd i))).2.2 a hl a ha rfl
  have fl : ∀ a ∈ l, F a = none := fun a ha => S.fr i a (lin a ha)
  have sF : Sub F (ov H F l) := Sub.ov fl
  have rp : Rp K (ov H F l) v' d := h3.frozenD fl hd
  obtain ⟨fp', p, S'⟩ := h5 (ov H F l) H (.im d) [] sF S.sub.of_ov (fun _ _ _ h => h) (fun a ha => by rw [ov_out (lr a ha)]; exact S.fr i a (rin a ha)) (fun _ _ _ _ _ h => h) (fun j n a ha => by rw [ov_out fun z => n (S.dj j i a ha (lin a z))]; exact S.fr j a ha) (.im rp) List.nodup_nil (fun a ha => by cases ha) (fun a ha => by cases ha) (fun _ _ _ _ h => by cases h)
  refine ⟨ov H F l, FD.put fp i fp', v, v', h1, h2, ⟨sF, fun _ _ h _ _ => h, fun _ h => h, fun a ha => ?_, fun a ⟨j, hj⟩ => ?_⟩, by rw [psM_eq he]; exact S', rp⟩
  · by_cases n : a ∈ l
    · exact .inr (.inl ⟨i, lin a n⟩)
    · rw [ov_out n] at ha; exact .inl ha
  · by_cases n : j = i
    · subst n
      rw [put_same] at hj
      rcases List.mem_append.mp (p.mem_iff.mp hj) with z | z
      · cases z
      · exact .inl ⟨j, rin a z⟩
    · rw [put_ne n] at hj
      exact .inl ⟨j, hj⟩
end
def varPd (i : Nat) (π : Way) : EM D := fun e => match pgM i π e with
  | some (.im d) => .ok d e
  | some m => match m.deep with
    | some d => .ok d (psM i π (.im d) e)
    | none => .no
  | none => .no
section
variable {X : Cx} {W : WX} {bv : Nat → Option V} {pos p : Pos} {a b o : Expr} {i : Nat} {π : Way} {fa : EM D} {fs : EM (List D)}
theorem de_plD (h : PL X a i π) : DE X W bv a (varPd i π) :=
  pe_imp h fun σ H Q ⟨e, F, fp, S, q⟩ => by
    unfold AtG varPd at q
    split at q
    · rename_i d hd e' hx
      cases hp : pgM i π e with
      | none => rw [hp] at hx; cases hx
      | some m =>
        rw [hp] at hx
        cases m with
        | im d0 =>
          cases hx
          obtain ⟨v, v', l, h1, h2, h3, _⟩ := S.at hp
          cases h3 with
          | im r => exact ⟨v, v', h1, h2, q v' F H fp _ (Stp.refl _ _ _) S ⟨rfl, r⟩⟩
        | _ =>
          simp only at hx
          split at hx
          · rename_i d1 hd1
            cases hx
            obtain ⟨F', fp', v, v', h1, h2, s', S', r⟩ := S.frzPd hp hd1
            exact ⟨v, v', h1, h2, q v' F' H fp' _ s' S' ⟨rfl, r⟩⟩
          · cases hx
    · rename_i hx
      exfalso
      split at hx
      · cases hx
      · split at hx <;> cases hx
      · cases hx
    · exact q.elim
/-! ### {'a': x, ..} -/
def DPs (X : Cx) (W : WX) (bv : Nat → Option V) (pos : Pos) (keys : List (Option Expr)) (values : List Expr) (ks : List Str) (f : EM (List D)) : Prop :=
  ∃ trs, PPs X pos keys values trs ∧ keys.all (·.isSome) = true ∧ keys.length = values.length ∧ keys.length = ks.length ∧ ∀ σ H (Q : List (V × V) → Hp → Prop), tA X.K W bv f σ H (fun vs H' => Q ((ks.map V.str).zip vs) H') → tPairs trs σ H Q
theorem dps_nil : DPs X W bv pos [] [] [] nilA := ⟨[], pps_nil, rfl, rfl, rfl, fun σ H Q ⟨e, F, fp, S, q⟩ => AtG.here (r := rL X.K) (x := []) S q .nil⟩
theorem dps_cons {k : Str} {j : Nat} {kp : Pos} {keys : List (Option Expr)} {values : List Expr} {ks : List Str} (h : DE X W bv a fa) (hr : DPs X W bv pos keys values ks fs) : DPs X W bv pos (some (.Constant (.str k) j kp) :: keys) (a :: values) (k :: ks) (consA fa fs) := by
  obtain ⟨trs, h1, h2, h3, h4, h5⟩ := hr
  refine ⟨_, pps_cons pe_str h h1, by simpa using h2, by simp [h3], by simp [h4], fun σ H Q t => ?_⟩
  refine tG.mono (tG.bnd (r := rD X.K) t) fun v H1 ⟨d, e1, F1, fp1, S1, r1, q1⟩ => ?_
  refine h5 σ H1 _ (tG.mono (AtG.bnd' (r := rL X.K) S1 q1) fun vs H2 ⟨ds, e2, F2, fp2, s2, S2, r2, q2⟩ => ?_)
  exact AtG.here (r := rL X.K) (x := v :: vs) S2 q2 (.cons (r1.mono s2) r2)
def dispM (ks : List Str) (f : EM (List D)) : EM M := bnd f fun ds => if ds.length = ks.length ∧ ks.Nodup then ret (.dk ((ks.map Sum.inr).zip (ds.map .im))) else fun _ => .no
theorem merge_new : ∀ {kvs acc : List (Key × V)}, (kvs.map (·.1)).Nodup → (∀ k ∈ kvs.map (·.1), lookK acc k = none) → mergeK acc kvs = acc ++ kvs
  | [], acc, _, _ => by simp [mergeK]
  | (k, v) :: kvs, acc, nd, h => by
    have h0 := h k (by simp)
    rw [List.map_cons, List.nodup_cons] at nd
    show mergeK (putK acc k v) kvs = _
    rw [putK_new h0, merge_new nd.2 fun k' hk' => ?_]
    · simp
    · have n : k' ≠ k := fun z => nd.1 (by rw [← z]; exact hk')
      have h1 := h k' (by rw [List.map_cons]; exact List.mem_cons_of_mem _ hk')
      clear h h0 nd hk'
      induction acc with
      | nil => rw [List.nil_append, lookK_neg (Ne.symm n)]; rfl
      | cons x acc ih =>
        by_cases e : x.1 = k'
        · rw [lookK_pos e] at h1; cases h1
        · rw [lookK_neg e] at h1
          rw [List.cons_append, lookK_neg e]
          exact ih h1
theorem dm_disp {keys : List (Option Expr)} {values : List Expr} {ks : List Str} (h : DPs X W bv pos keys values ks fs) (h0 : keys ≠ []) (h15 : keys.length ≤ 15) : DM X W bv (.Dict keys values pos) (dispM ks fs) := by
  obtain ⟨trs, h1, h2, h3, h4, h5⟩ := h
  refine pe_imp (pe_disp h1 h2 h3 h0 h15) fun σ H Q ⟨e, F, fp, S, q⟩ p hp => h5 σ _ _ ?_
  have s0 : Stp F H noP F (upd H p (.dK [])) noP := Stp.fresh hp
  have S0 := S.quiet s0 (S.sub.mut (S.sub.non hp))
  refine ⟨e, F, fp, S0, ?_⟩
  unfold AtG dispM bnd at q
  unfold AtG
  cases z : fs e with
  | no => rw [z] at q; exact q
  | ex C fs e' => rw [z] at q; exact fun F' H' fp' dx s => q F' H' fp' dx (s0.loud.trans s)
  | ok ds e1 =>
    rw [z] at q
    intro vs F1 H1 fp1 P1 s1 S1 ⟨hP, r1⟩
    subst hP
    dsimp only at q
    by_cases hc : ds.length = ks.length ∧ ks.Nodup
    · rw [if_pos hc] at q
      obtain ⟨hlen, nd⟩ := hc
      have np : ¬ Pf fp p := fun ⟨j, hj⟩ => by
        obtain ⟨u, hu⟩ := S.live hj
        rw [hp] at hu; cases hu
      obtain ⟨k1, k2, k3⟩ := s1.off upd_same np (S.sub.non hp) (fun ws z => by cases z)
      have r1' : RpL X.K F1 vs ds := r1
      have hvl : vs.length = ks.length := by rw [r1'.length, hlen]
      refine ⟨k1, (ks.map Sum.inr).zip vs, ?_, by rw [List.length_zip, List.length_map, hvl]; omega, ?_⟩
      · rw [List.zip_map_left, List.zip_map_left, List.map_map]
        rfl
      · have e1 : ((ks.map (Sum.inr : Str → Key)).zip vs).map (·.1) = ks.map Sum.inr := List.map_fst_zip (by simp [hvl])
        have e2 : ((ks.map (Sum.inr : Str → Key)).zip vs).map (·.2) = vs := List.map_snd_zip (by simp [hvl])
        rw [merge_new (acc := []) (by rw [e1]; exact List.Pairwise.map _ (fun a b hn => by intro z; cases z; exact hn rfl) nd) (fun _ _ => rfl), List.nil_append]
        have e3 : ((ks.map (Sum.inr : Str → Key)).zip (ds.map M.im)).map (·.1) = ks.map Sum.inr := List.map_fst_zip (by simp [hlen])
        have e4 : ((ks.map (Sum.inr : Str → Key)).zip (ds.map M.im)).map (·.2) = ds.map M.im := List.map_snd_zip (by simp [hlen])
        refine q (.ref p) F1 _ fp1 (fun a => Pf fp1 a ∨ a ∈ [p]) ?_ (S1.heap (Sub.refl _) (S1.sub.mut k2) (fun j a u ha hu => ?_) S1.fr) ⟨[p], rfl, .dk (kvs := (ks.map Sum.inr).zip vs) (fp := []) upd_same (by rw [e1, e3]) (by rw [e2, e4]; exact OwnL.ims r1'), by simp, (fun a ha => by rw [List.mem_singleton.mp ha]; exact k3), fun a ha => by rw [List.mem_singleton.mp ha]; exact k2⟩
        · have t := (s0.loud (P := Pf fp)).trans s1
          refine Stp.trans (P1 := fun a => Pf fp1 a ∨ a ∈ [p]) ⟨t.ext, t.keep, t.live, t.newF, fun a ha => ha.elim (t.newP a) fun z => .inr (by rw [List.mem_singleton.mp z]; exact hp)⟩ ⟨Sub.refl _, fun a u hu n _ => ?_, fun a ha => ?_, fun a ha => .inl ha, fun a ha => .inl ha⟩
          · rw [upd_ne fun z => n (.inr (by rw [z]; exact List.mem_cons_self))]
            exact hu
          · by_cases e : a = p
            · rw [e, upd_same] at ha; cases ha
            · rw [upd_ne e] at ha; exact ha
        · rw [upd_ne fun z => k3 ⟨j, by rw [← z]; exact ha⟩]
          exact hu
    · rw [if_neg hc] at q
      exact q.elim
end
end FD

/-! FD: methods and classes of the text; quiet items. -/
namespace FD
open PySem L2
section
variable (K : PySem.W.Frag) (mg : Str → Option Value)
def MethAt (C m q : Str) (st : Stmt) : Prop := ∃ ca f fd, PySem.W.nsIn K mainGlobals C = some (some (.ref ca)) ∧ Cls K ca ∧ Meth K ca m f ∧ Fun K m q st f fd
def ClsAt (C q : Str) (st : Stmt) : Prop := ∃ ca f fd, PySem.W.nsIn K mainGlobals C = some (some (.ref ca)) ∧ mg C = some (.ref ca) ∧ Mk K ca f ∧ Fun K "__init__" q st f fd
end
section
variable {P : Program} {w : World} {K : PySem.W.Frag} {mg : Str → Option Value} {base : Heap} {C m q : Str} {st : Stmt} {k : Nat} {N ps : List Str} {B : List Nat} {g : EM Flow}
theorem hasM_of (Fn : MethAt K C m q st) (Sc : FnScope N ps (defScope st)) (hb : Body P w K mg base k q st N B g)
    (bi : ∀ (kV doc pm : Value) (an : Option Addr) (cdv ct : Value) (us : List Value), us.length = ps.length → bindArgs (PySem.W.fnOf m q (defArgs st) (defBody st) (defScope st) .none kV doc pm an cdv ct) ⟨us, []⟩ = pure (ps.zip us)) : HasM P w K mg base (k + 1) C m ps (defF ps.length N.length B g) := by
  obtain ⟨ca, f, fd, hC, c, hm, Fn⟩ := Fn
  exact ⟨ca, f, fd, hC, c, hm, fn_F Fn Sc fun cdv A outer s H vs E hg hr => hb f cdv A outer s H vs E hg hr, Fn.binds bi⟩
theorem hasC_of (Fn : ClsAt K mg C q st) (Sc : FnScope N ps (defScope st)) (hb : Body P w K mg base k q st N B g)
    (bi : ∀ (kV doc pm : Value) (an : Option Addr) (cdv ct : Value) (us : List Value), us.length = ps.length → bindArgs (PySem.W.fnOf "__init__" q (defArgs st) (defBody st) (defScope st) .none kV doc pm an cdv ct) ⟨us, []⟩ = pure (ps.zip us)) : HasC P w K mg base (k + 1) C ps (defF ps.length N.length B g) := by
  obtain ⟨ca, f, fd, hC, hm, M, Fn⟩ := Fn
  exact ⟨ca, f, fd, hC, hm, M, fn_F Fn Sc fun cdv A outer s H vs E hg hr => hb f cdv A outer s H vs E hg hr, Fn.binds bi⟩
theorem att_of {ca : Addr} {f : Str} (hC : PySem.W.nsIn K mainGlobals C = some (some (.ref ca))) (c : Cls K ca) (n : NoAttr K ca f) : Att K C f := fun cb h => by
  rw [hC] at h
  cases h
  exact ⟨c, n⟩
end
section
variable {X : Cx} {bv : Nat → Option V} {pos : Pos} {a b : Expr} {ga gb : Env → Option D}
theorem dq_ix {k : Nat} (hr : Room k X.A) (ha : DQ X bv a ga) (hb : DQ X bv b gb) (hs : PlainIx b := by exact fun _ _ => rfl) : DQ X bv (.Subscript a b pos) (qB ixA ga gb) :=
  pe_imp (pe_ix (ix_seq.or (ix_dict hr)) ha hb hs) fun σ H Q t => dq_op (opv_cases opv_ix opv_dget fun x y => by unfold ixA; split <;> first | exact .inr rfl | exact .inl rfl) (fun σ H Q h => h) σ H Q t
end
def tupQ : List D → Option D := fun ds => if few ds.length then some (.tuple ds) else none
theorem dq_tupQ {X : Cx} {bv : Nat → Option V} {pos : Pos} {es : List Expr} {k : Nat} {gs : Env → Option (List D)} (h : DQA X bv es gs) : DQ X bv (.Tuple es k pos) (qR tupQ gs) := dq_tup h
end FD

/-! FD: enumerate over a text. -/
namespace FD
open PySem L2 PyProof.Rows
/-- the signs of x, each in a new pair -/
def ItSe (x : Str) : It where
  go i _ := i < x.cps.size
  yld i H v H' := ∃ T c, v = .ref T ∧ H T = none ∧ H' = upd H T (.tup [.int (i : Nat), .str ⟨#[c]⟩]) ∧ x.cps[i]? = some c
  stop i _ := i = x.cps.size
def EnS (x : Str) (t : Tok) (e it : Addr) (i : Nat) (h : Heap) : Prop := (∃ old, IsEnum h e it ((i : Nat) : Int) old) ∧ h.IsStrIter it (strIterType x) x t i ∧ e ≠ it
theorem turn_enumS {P : Program} {w : World} {K : PySem.W.Frag} {elts : List Expr} {kk : Nat} {tpos : Pos} (x : Str) (t : Tok) (e it : Addr) : Turn P w K (.Tuple elts kk tpos) (ItSe x) [e, it] e (EnS x t e it) where
  mem := List.mem_cons_self
  obj := fun i h st b hb => by
    obtain ⟨⟨old, he⟩, ⟨o, ho, hc, hd⟩, _⟩ := st
    rcases (by simpa using hb : b = e ∨ b = it) with z | z
    · rw [z]; exact ⟨_, he, fun v q => nomatch q⟩
    · rw [z]; exact ⟨o, ho, fun v q => by rw [hd] at q; cases q⟩
  keep := fun i h h' st k => by
    obtain ⟨⟨old, he⟩, ⟨o, ho, r⟩, hn⟩ := st
    exact ⟨⟨old, k e (by simp) _ he⟩, ⟨o, k it (by simp) o ho, r⟩, hn⟩
  item := by
    intro X hP hw hK hc i pins s σ H E I hf st hg
    subst hP hw hK
    obtain ⟨⟨old, he⟩, hit, hne⟩ := st
    have hel : e < s.heap.objs.size := Heap.lt_size he
    have hil : it < s.heap.objs.size := by obtain ⟨_, q, _⟩ := hit; exact Heap.lt_size q
    refine wpAny_pyNext_enum_itemC (Draws.text (A := X.A.in1) (I.ok.hd hc) it x t) he hit hg hne (by simp [hne]) fun x' h' tk hpx ho st' hT hsz hk => ?_
    obtain ⟨c, u, hcx, rfl⟩ := hpx
    refine ⟨_, rfl, wpAny_letOwnedTupleGo_enum (s := { s with heap := h', toks := tk + 1 }) ho fun h'' he' sb => ?_⟩
    have hT2 := (sb.2 _ (Nat.ne_of_gt hel)).trans hT
    have new : ObjOk X.prog X.w (upd H s.heap.objs.size (.tup [.int (i : Nat), .str ⟨#[c]⟩])) h'' s.heap.objs.size (.tup [.int (i : Nat), .str ⟨#[c]⟩]) := ⟨by show 2 ≤ sizeLine; decide, [.int i tk, .str ⟨#[c]⟩ u], .cons ⟨_, rfl⟩ (.cons ⟨_, rfl⟩ .nil), ⟨_, hT2, rfl, _, rfl⟩⟩
    have I1 : Inv X pins σ (upd H s.heap.objs.size (.tup [.int (i : Nat), .str ⟨#[c]⟩])) { s with heap := h'', toks := tk + 1 } :=
      I.turnedNew (ch := [e, it]) (fun b ob hb q => (sb.2 b fun z => hb (by simp [z])).trans (hk b ob (fun z => hb (by simp [z])) (fun z => hb (by simp [z])) q)) hf (Nat.le_refl _) new
    have sit : h''.IsStrIter it (strIterType x) x t (i + 1) := by
      obtain ⟨o, ho', r⟩ := st'
      exact ⟨o, (sb.2 it (Ne.symm hne)).trans ho', r⟩
    refine ⟨.ref s.heap.objs.size, _, I1, rfl, ⟨_, c, rfl, I.hok.fresh (Nat.le_refl _), rfl, hcx⟩, ⟨⟨.str ⟨#[c]⟩ u, ?_⟩, sit, hne⟩, fun b hb => ?_⟩
    · rw [show ((i + 1 : Nat) : Int) = (i : Int) + 1 by omega]
      exact he'
    · have lt : b < s.heap.objs.size := by
        rcases (by simpa using hb : b = e ∨ b = it) with z | z <;> rw [z] <;> assumption
      rw [upd_ne (Nat.ne_of_lt lt)]
      exact (hf b hb).1
  done := by
    intro X hP hw hK hc i pins s σ H E I hf st hg
    subst hP hw hK
    obtain ⟨⟨old, he⟩, hit, hne⟩ := st
    obtain ⟨f0, f1, f2, f3, f4, f5⟩ := hf it (by simp)
    have hg' : i = x.cps.size := hg
    rw [hg'] at hit
    exact wpAny_pyNext_enum_endD (Draws.text (A := X.A.in1) (I.ok.hd hc) it x t) he hit fun h' eb => ⟨rfl, I.turned (t' := s.toks) (fun b o hb q => eb b o hb q) f0 f1 f3 f4 f5⟩
  self := fun A i s Q E st h => by
    obtain ⟨⟨_, he⟩, _⟩ := st
    exact wpAny_pyIter_enum he h
section
variable {X : Cx} {W : WX} {bv : Nat → Option V} {pos p tpos : Pos} {a b : Expr} {fa fb : EM D} {fs : EM (List D)} {elts : List Expr} {kk : Nat}
def iEnS (ta : TA) : TI := fun σ H R => ta σ H fun vs H1 => ∃ x, vs = [.str x] ∧ R (ItSe x) H1
theorem pi_enS {e : Expr} {ta : TA} (hg : Gl X "enumerate") (hm : X.mg "enumerate" = none) (ha : PA X [e] ta) (hs : starEach [e] X.env = [(false, eval e X.env)] := by rfl) : PI X (.Tuple elts kk tpos) (.Call (.Name "enumerate" p) [e] [] pos) (iEnS ta) := by
  refine ⟨fun pins s σ H R I h => Call_ (ld_blt I hg hm boot_enumerate (PyProof.Rows.callWith_type1 (thn (ha.run pos pins s σ H _ I h) fun us s1 ⟨vs, H1, I1, r1, q1⟩ => ?_) hs rfl))⟩
  obtain ⟨x, ex, q⟩ := q1
  subst ex
  cases r1 with
  | cons ru rn =>
    cases rn
    obtain ⟨t, rfl⟩ := ru
    refine enum_begin (begins_text x t) trivial fun h' he hit hk => wpAny_pyIter_enum he ?_
    have I2 : Inv X pins σ H1 { s1 with heap := h' } := I1.kept (t' := s1.toks) hk
    refine ⟨s1.heap.objs.size + 1, [s1.heap.objs.size + 1, s1.heap.objs.size], _, _, H1, rfl, I2, turn_enumS x t (s1.heap.objs.size + 1) s1.heap.objs.size, ⟨⟨.none, he⟩, ⟨_, hit, rfl, rfl⟩, Nat.succ_ne_self _⟩, fun b hb => ?_, q⟩
    have hle : s1.heap.objs.size ≤ b := by
      rcases (by simpa using hb : b = s1.heap.objs.size + 1 ∨ b = s1.heap.objs.size) with z | z
      · rw [z]; exact Nat.le_succ _
      · rw [z]; exact Nat.le_refl _
    exact I1.fpOk hle (I1.hok.fresh hle)
def enS : List D → Option (List D)
  | [.str x] => some (enumDs (chars x))
  | _ => none
theorem di_enS (hm : X.mg "enumerate" = none) (ha : DA X W bv [a] fs) (hg : Gl X "enumerate" := by rfl) (hs : starEach [a] X.env = [(false, eval a X.env)] := by rfl) : DI X W bv (.Tuple elts kk tpos) (.Call (.Name "enumerate" p) [a] [] pos) (itA enS fs) :=
  pi_imp (pi_enS hg hm ha hs) fun σ H R t => tG.mono (tI_bndA t) fun x H1 ⟨d, e1, F1, fp1, ds, S1, r1, hk, q⟩ => by
    unfold enS at hk
    split at hk
    · rename_i x0
      cases hk
      cases r1 with
      | cons r1 r =>
        cases r
        cases r1 with
        | str z =>
          have hl : (enumDs (chars x0)).length = x0.cps.size := by rw [enum_len]; simp [chars]
          refine ⟨x0, rfl, q _ F1 H1 fp1 (Stp.refl _ _ _) S1 fun F' H' i s1 s2 => ⟨fun d hd => ?_, fun h1 h2 => ?_⟩⟩
          · obtain ⟨y, hy, rfl⟩ := enum_get hd
            unfold chars at hy
            rw [List.getElem?_map] at hy
            obtain ⟨c, hc, rfl⟩ := Option.map_eq_some_iff.mp hy
            have hc' : x0.cps[i]? = some c := by simpa using hc
            refine ⟨(Array.getElem?_eq_some_iff.mp hc').1, fun v H'' ⟨T, c', e1, e2, e3, e4⟩ => ?_⟩
            rw [hc'] at e4
            cases e4
            subst e1 e3
            exact grow_pair (F := F') (Sub.refl _) s2 (.str _) e2
          · show i = x0.cps.size
            rw [hl] at h1 h2
            omega
    · cases hk
end
end FD

/-! FD: how denotations are computed: lemmas for simp, loops and comprehensions by what each turn does. -/
namespace FD
open PySem L2
@[simp] theorem toD_im {d : D} : (M.im d).toD = some d := rfl
theorem few_le' {n : Nat} (h : n ≤ 1000000) : few n = true := decide_eq_true h
@[simp] theorem few_lit {n : Nat} : few n = decide (n ≤ 1000000) := rfl
theorem bnd_eq {α β : Type} {f : EM α} {k : α → EM β} {e e1 : Env} {a : α} (h : f e = .ok a e1) : bnd f k e = k a e1 := by
  unfold bnd
  rw [h]
theorem consA_eq {f : EM D} {g : EM (List D)} {e e1 e2 : Env} {d : D} {ds : List D} (h1 : f e = .ok d e1) (h2 : g e1 = .ok ds e2) : consA f g e = .ok (d :: ds) e2 := by
  unfold consA
  rw [bnd_eq h1, bnd_eq h2]
  rfl
theorem cbE_eq {g : List D → Option D} {fs : EM (List D)} {e e1 : Env} {ds : List D} {d : D} (h1 : fs e = .ok ds e1) (h2 : g ds = some d) : cbE g fs e = .ok d e1 := by
  unfold cbE
  rw [bnd_eq h1, h2]
  rfl
theorem bin_eq {g : D → D → Option D} {fa fb : EM D} {e e1 e2 : Env} {x y z : D} (h1 : fa e = .ok x e1) (h2 : fb e1 = .ok y e2) (h3 : g x y = some z) : bin g fa fb e = .ok z e2 := by
  unfold bin
  rw [bnd_eq h1, bnd_eq h2, h3]
  rfl
theorem itE_eq {g : D → Option (List D)} {f : EM D} {e e1 : Env} {d : D} {ds : List D} (h1 : f e = .ok d e1) (h2 : g d = some ds) : itE g f e = .ok ds e1 := by
  unfold itE
  rw [bnd_eq h1, h2]
  rfl
theorem call1 {Fs : List M → FOut} {f : EM D} {e e1 : Env} {d r : D} {m : M} (h1 : f e = .ok d e1) (h2 : Fs [.im d] = .ok m [.im d]) (h3 : m.toD = some r) : callD Fs (arD f arN) e = .ok r e1 := by
  have q : callM Fs (arD f arN) e = .ok m e1 := by simp [FD.ret, FD.lif, FD.bnd, FD.var, FD.bin, FD.un, FD.tst, FD.andT, FD.orT, FD.notT, FD.andV, FD.orV, FD.notV, FD.ifE, FD.nilA, FD.consA, FD.tupE, FD.lstE, FD.seqS, FD.exprS, FD.retS, FD.retM, FD.ifS, FD.stoM, FD.setS, FD.setM, FD.gN, FD.gsNil, FD.gsCons, FD.gT, FD.goS, FD.asgS, FD.parS, FD.augS, FD.itE, FD.itA, FD.cbE, FD.slE, FD.intE, FD.arN, FD.arD, FD.arB, FD.callD, FD.callM, FD.slotsOf, FD.argM, FD.putB, FD.isIm, FD.endF, FD.backs, FD.args0, FD.defF, FD.chn, FD.lstM, FD.dtM, FD.dkM, FD.imM, FD.frzE, FD.has, FD.chk, FD.pk, FD.pkLen, FD.peekD, FD.pkL, FD.pkR, callM, arD, arN, bnd, h1, h2]
  unfold callD
  rw [bnd_eq q, h3]
  rfl
theorem call2 {Fs : List M → FOut} {f g : EM D} {e e1 e2 : Env} {d d' r : D} {m : M} (h1 : f e = .ok d e1) (h1' : g e1 = .ok d' e2) (h2 : Fs [.im d, .im d'] = .ok m [.im d, .im d']) (h3 : m.toD = some r) : callD Fs (arD f (arD g arN)) e = .ok r e2 := by
  have q : callM Fs (arD f (arD g arN)) e = .ok m e2 := by simp [FD.ret, FD.lif, FD.bnd, FD.var, FD.bin, FD.un, FD.tst, FD.andT, FD.orT, FD.notT, FD.andV, FD.orV, FD.notV, FD.ifE, FD.nilA, FD.consA, FD.tupE, FD.lstE, FD.seqS, FD.exprS, FD.retS, FD.retM, FD.ifS, FD.stoM, FD.setS, FD.setM, FD.gN, FD.gsNil, FD.gsCons, FD.gT, FD.goS, FD.asgS, FD.parS, FD.augS, FD.itE, FD.itA, FD.cbE, FD.slE, FD.intE, FD.arN, FD.arD, FD.arB, FD.callD, FD.callM, FD.slotsOf, FD.argM, FD.putB, FD.isIm, FD.endF, FD.backs, FD.args0, FD.defF, FD.chn, FD.lstM, FD.dtM, FD.dkM, FD.imM, FD.frzE, FD.has, FD.chk, FD.pk, FD.pkLen, FD.peekD, FD.pkL, FD.pkR, callM, arD, arN, bnd, h1, h1', h2]
  unfold callD
  rw [bnd_eq q, h3]
  rfl
theorem callK1 {Fs : List M → FOut} {f : EM D} {e e1 : Env} {d r : D} {m : M} (h1 : f e = .ok d e1) (h2 : Fs [.im d] = .ok m [.im d]) (h3 : m.toD = some r) : callD Fs (kwA 0 1 [.inl 0] [] arN (arD f arN)) e = .ok r e1 := by
  have q : callM Fs (kwA 0 1 [.inl 0] [] arN (arD f arN)) e = .ok m e1 := by simp [FD.ret, FD.lif, FD.bnd, FD.var, FD.bin, FD.un, FD.tst, FD.andT, FD.orT, FD.notT, FD.andV, FD.orV, FD.notV, FD.ifE, FD.nilA, FD.consA, FD.tupE, FD.lstE, FD.seqS, FD.exprS, FD.retS, FD.retM, FD.ifS, FD.stoM, FD.setS, FD.setM, FD.gN, FD.gsNil, FD.gsCons, FD.gT, FD.goS, FD.asgS, FD.parS, FD.augS, FD.itE, FD.itA, FD.cbE, FD.slE, FD.intE, FD.arN, FD.arD, FD.arB, FD.callD, FD.callM, FD.slotsOf, FD.argM, FD.putB, FD.isIm, FD.endF, FD.backs, FD.args0, FD.defF, FD.chn, FD.lstM, FD.dtM, FD.dkM, FD.imM, FD.frzE, FD.has, FD.chk, FD.pk, FD.pkLen, FD.peekD, FD.pkL, FD.pkR, callM, kwA, arD, arN, bnd, h1, h2, pick]
  unfold callD
  rw [bnd_eq q, h3]
  rfl
theorem loopS_cons {t : D → EM Unit} {g : EM Flow} {d : D} {ds : List D} {e e1 e2 : Env} (h1 : t d e = .ok () e1) (h2 : g e1 = .ok .nxt e2) : loopS t g (d :: ds) e = loopS t g ds e2 := by
  rw [loopS]
  simp only [h1, h2]
theorem whileS_step {n : Nat} {c : EM Bool} {g : EM Flow} {e e1 e2 : Env} (h1 : c e = .ok true e1) (h2 : g e1 = .ok .nxt e2) : whileS (n + 1) c g e = whileS n c g e2 := by
  rw [whileS, bnd_eq h1]
  simp only [if_true, h2]
theorem whileS_end {n : Nat} {c : EM Bool} {g : EM Flow} {e e1 : Env} (h : c e = .ok false e1) : whileS (n + 1) c g e = .ok .nxt e1 := by
  rw [whileS, bnd_eq h]
  rfl
/-- a def of data, by its body -/
theorem run1 {n : Nat} {g : EM Flow} {d : D} {e' : Env} {m : M} (h : g (some (.im d) :: List.replicate n none) = .ok (.ret m) e') : defF 1 (n + 1) [] g [.im d] = .ok m [.im d] := by
  simp only [defF, args0, List.length_cons, List.length_nil, if_true, List.map_cons, List.map_nil, List.cons_append, List.nil_append, Nat.add_sub_cancel, Nat.zero_add, h, endF, backs]
  rfl
theorem run2 {n : Nat} {g : EM Flow} {d d' : D} {e' : Env} {m : M} (h : g (some (.im d) :: some (.im d') :: List.replicate n none) = .ok (.ret m) e') : defF 2 (n + 2) [] g [.im d, .im d'] = .ok m [.im d, .im d'] := by
  simp only [defF, args0, List.length_cons, List.length_nil, if_true, List.map_cons, List.map_nil, List.cons_append, List.nil_append, Nat.add_sub_cancel, Nat.zero_add, h, endF, backs]
  rfl
theorem ret_at {α : Type} {a : α} {e : Env} : FD.ret a e = .ok a e := rfl
theorem intE_eq {f : EM D} {e e1 : Env} {i : Int} (h : f e = .ok (.int i) e1) : intE f e = .ok (some i) e1 := by
  unfold intE
  rw [bnd_eq h]
  rfl
theorem slE_eq {fa : EM D} {fl fh : EM (Option Int)} {e e1 e2 e3 : Env} {d z : D} {lo hi : Option Int} (h1 : fa e = .ok d e1) (h2 : fl e1 = .ok lo e2) (h3 : fh e2 = .ok hi e3) (h4 : slD d lo hi = some z) : slE fa fl fh e = .ok z e3 := by
  unfold slE
  rw [bnd_eq h1, bnd_eq h2, bnd_eq h3, h4]
  rfl
theorem setS_eq {i : Nat} {f : EM D} {e e1 : Env} {d : D} (h : f e = .ok d e1) (hi : i < e1.length) : setS i f e = .ok .nxt (e1.set i (some (.im d))) := by
  unfold setS
  rw [bnd_eq h]
  unfold stoM
  rw [if_pos hi]
theorem tst_eq {f : EM D} {e e1 : Env} {b : Bool} (h : f e = .ok (.bool b) e1) : tst f e = .ok b e1 := by
  unfold tst
  rw [bnd_eq h]
  rfl
theorem ifS_eq {c : EM Bool} {g1 g2 : EM Flow} {e e1 : Env} {b : Bool} (h : c e = .ok b e1) : ifS c g1 g2 e = (if b then g1 else g2) e1 := by
  unfold ifS
  rw [bnd_eq h]
theorem andT_eq {a b : EM Bool} {e e1 : Env} {x : Bool} (h : a e = .ok x e1) : andT a b e = (if x then b else FD.ret false) e1 := by
  unfold andT
  rw [bnd_eq h]
theorem ret_eq {f : EM D} {e e1 : Env} {d : D} (h : f e = .ok d e1) : retS f e = .ok (.ret (.im d)) e1 := by
  unfold retS
  rw [bnd_eq h]
  rfl
/-- a sign -/
def sg (c : Nat) : Str := ⟨#[c]⟩
theorem sg_inj {a b : Nat} (h : sg a = sg b) : a = b := by
  have := congrArg Str.cps h
  simpa [sg] using this
@[simp] theorem sg_beq {a b : Nat} : (sg a == sg b) = (a == b) := by
  rw [Bool.eq_iff_iff, beq_iff_eq, beq_iff_eq]
  exact ⟨sg_inj, fun h => by rw [h]⟩
theorem star_sg : (("*" : Str)) = sg 42 := rfl
theorem first_sg : (("<" : Str)) = sg 60 := rfl
theorem last_sg : ((">" : Str)) = sg 62 := rfl
/-- four things, three things by their places -/
@[simp] theorem ix40 {a b c d : D} : ixA (.tuple [a, b, c, d]) (.int 0) = some a := rfl
@[simp] theorem ix41 {a b c d : D} : ixA (.tuple [a, b, c, d]) (.int 1) = some b := rfl
@[simp] theorem ix42 {a b c d : D} : ixA (.tuple [a, b, c, d]) (.int 2) = some c := rfl
@[simp] theorem ix43 {a b c d : D} : ixA (.tuple [a, b, c, d]) (.int 3) = some d := rfl
@[simp] theorem ix30 {a b c : D} : ixA (.tuple [a, b, c]) (.int 0) = some a := rfl
@[simp] theorem ix31 {a b c : D} : ixA (.tuple [a, b, c]) (.int 1) = some b := rfl
@[simp] theorem ix32 {a b c : D} : ixA (.tuple [a, b, c]) (.int 2) = some c := rfl
@[simp] theorem eqA_int {i j : Int} : eqA (.int i) (.int j) = some (.bool (i == j)) := rfl
@[simp] theorem eqA_str {i j : Str} : eqA (.str i) (.str j) = some (.bool (i == j)) := by
  simp [FD.ret, FD.lif, FD.bnd, FD.var, FD.bin, FD.un, FD.tst, FD.andT, FD.orT, FD.notT, FD.andV, FD.orV, FD.notV, FD.ifE, FD.nilA, FD.consA, FD.tupE, FD.lstE, FD.seqS, FD.exprS, FD.retS, FD.retM, FD.ifS, FD.stoM, FD.setS, FD.setM, FD.gN, FD.gsNil, FD.gsCons, FD.gT, FD.goS, FD.asgS, FD.parS, FD.augS, FD.itE, FD.itA, FD.cbE, FD.slE, FD.intE, FD.arN, FD.arD, FD.arB, FD.callD, FD.callM, FD.slotsOf, FD.argM, FD.putB, FD.isIm, FD.endF, FD.backs, FD.args0, FD.defF, FD.chn, FD.lstM, FD.dtM, FD.dkM, FD.imM, FD.frzE, FD.has, FD.chk, FD.pk, FD.pkLen, FD.peekD, FD.pkL, FD.pkR, eqA, eqD, eqOk, scalD, flatD, flatOf, scal, PyData.eqv]
@[simp] theorem neD_str {i j : Str} : neD (.str i) (.str j) = some (.bool (!(i == j))) := by
  simp [FD.ret, FD.lif, FD.bnd, FD.var, FD.bin, FD.un, FD.tst, FD.andT, FD.orT, FD.notT, FD.andV, FD.orV, FD.notV, FD.ifE, FD.nilA, FD.consA, FD.tupE, FD.lstE, FD.seqS, FD.exprS, FD.retS, FD.retM, FD.ifS, FD.stoM, FD.setS, FD.setM, FD.gN, FD.gsNil, FD.gsCons, FD.gT, FD.goS, FD.asgS, FD.parS, FD.augS, FD.itE, FD.itA, FD.cbE, FD.slE, FD.intE, FD.arN, FD.arD, FD.arB, FD.callD, FD.callM, FD.slotsOf, FD.argM, FD.putB, FD.isIm, FD.endF, FD.backs, FD.args0, FD.defF, FD.chn, FD.lstM, FD.dtM, FD.dkM, FD.imM, FD.frzE, FD.has, FD.chk, FD.pk, FD.pkLen, FD.peekD, FD.pkL, FD.pkR, neD, eqOk, scalD, flatD, flatOf, scal, PyData.eqv]
@[simp] theorem neD_int {i j : Int} : neD (.int i) (.int j) = some (.bool (!(i == j))) := rfl
@[simp] theorem inA2_str {x y z : Str} : inA (.str x) (.tuple [.str y, .str z]) = some (.bool (y == x || z == x)) := by
  simp [FD.ret, FD.lif, FD.bnd, FD.var, FD.bin, FD.un, FD.tst, FD.andT, FD.orT, FD.notT, FD.andV, FD.orV, FD.notV, FD.ifE, FD.nilA, FD.consA, FD.tupE, FD.lstE, FD.seqS, FD.exprS, FD.retS, FD.retM, FD.ifS, FD.stoM, FD.setS, FD.setM, FD.gN, FD.gsNil, FD.gsCons, FD.gT, FD.goS, FD.asgS, FD.parS, FD.augS, FD.itE, FD.itA, FD.cbE, FD.slE, FD.intE, FD.arN, FD.arD, FD.arB, FD.callD, FD.callM, FD.slotsOf, FD.argM, FD.putB, FD.isIm, FD.endF, FD.backs, FD.args0, FD.defF, FD.chn, FD.lstM, FD.dtM, FD.dkM, FD.imM, FD.frzE, FD.has, FD.chk, FD.pk, FD.pkLen, FD.peekD, FD.pkL, FD.pkR, inA, inD, inB, inTOk, flatD, flatAll, memD, PyData.eqv]
@[simp] theorem leI_int {i j : Int} : leI (.int i) (.int j) = some (.bool (decide (i ≤ j))) := rfl
@[simp] theorem ltI_int {i j : Int} : ltI (.int i) (.int j) = some (.bool (decide (i < j))) := rfl
@[simp] theorem geI_int {i j : Int} : geI (.int i) (.int j) = some (.bool (decide (j ≤ i))) := rfl
@[simp] theorem gtI_int {i j : Int} : gtI (.int i) (.int j) = some (.bool (decide (j < i))) := rfl
@[simp] theorem addD_int {i j : Int} : addD (.int i) (.int j) = some (.int (i + j)) := rfl
@[simp] theorem iaddD_int {i j : Int} : iaddD (.int i) (.int j) = some (.int (i + j)) := rfl
@[simp] theorem subD_int {i j : Int} : subD (.int i) (.int j) = some (.int (i - j)) := rfl
@[simp] theorem isiD_int {i : Int} : isiD "int" (.int i) = some (.bool true) := rfl
@[simp] theorem isiD_bi {i : Int} : isiD "bool" (.int i) = some (.bool false) := rfl
@[simp] theorem isiD_str {x : Str} : isiD "str" (.str x) = some (.bool true) := rfl
@[simp] theorem isiD_tup {x : List D} : isiD "tuple" (.tuple x) = some (.bool true) := rfl
@[simp] theorem lenD_tup {x : List D} : lenD [.tuple x] = some (.int x.length) := rfl
@[simp] theorem lenD_list {x : List D} : lenD [.list x] = some (.int x.length) := rfl
@[simp] theorem lenD_sg {c : Nat} : lenD [.str (sg c)] = some (.int 1) := rfl
@[simp] theorem addD_list {x y : List D} : addD (.list x) (.list y) = if few (x.length + y.length) then some (.list (x ++ y)) else none := rfl
@[simp] theorem addD_tup {x y : List D} : addD (.tuple x) (.tuple y) = if few (x.length + y.length) then some (.tuple (x ++ y)) else none := rfl
@[simp] theorem tupleD_list {x : List D} : tupleD [.list x] = some (.tuple x) := rfl
@[simp] theorem itD_list {x : List D} : itD (.list x) = some x := rfl
@[simp] theorem itD_tup {x : List D} : itD (.tuple x) = some x := rfl
@[simp] theorem itX_list {x : List D} : itX (.list x) = some x := rfl
@[simp] theorem itX_tup {x : List D} : itX (.tuple x) = some x := rfl
@[simp] theorem itX_dict {x : List (D × D)} : itX (.dict x) = some (x.map (·.1)) := rfl

/-! ### comprehensions and loops by their turns -/
theorem compL_eq {vs : List Nat} {t : D → EM Unit} {tt : EM Bool} {te : EM D} {e : Env} {f : D → Option D} : ∀ {ds : List D},
    (∀ d ∈ ds, ∃ e1, t d e = .ok () e1 ∧ ((f d = none ∧ ∃ e2, tt e1 = .ok false e2 ∧ vs.all (imAt e2) = true ∧ wipeE e2 vs = e) ∨ ∃ y, f d = some y ∧ ∃ e2 e3, tt e1 = .ok true e2 ∧ te e2 = .ok y e3 ∧ vs.all (imAt e3) = true ∧ wipeE e3 vs = e)) →
    compL vs t tt te ds e = .ok (ds.filterMap f) e
  | [], _ => rfl
  | d :: ds, h => by
    obtain ⟨e1, h1, h2⟩ := h d List.mem_cons_self
    have ih := compL_eq (ds := ds) fun d' hd => h d' (List.mem_cons_of_mem _ hd)
    unfold compL
    rw [h1]
    rcases h2 with ⟨hf, e2, a1, a2, a3⟩ | ⟨y, hf, e2, e3, a1, a2, a3, a4⟩
    · simp only [a1, a2, a3, if_true, ih, List.filterMap_cons, hf]
    · simp only [a1, a2, a3, a4, if_true, ih, List.filterMap_cons, hf]
theorem compE_eq {vs : List Nat} {fi : EM (List D)} {t : D → EM Unit} {tt : EM Bool} {te : EM D} {e e0 : Env} {f : D → Option D} {ds : List D} (hi : fi e = .ok ds e0) (hw : vs.all (imAt e0) = true) (hb : backE (wipeE e0 vs) e0 vs = e0) (hw2 : vs.all (imAt (wipeE e0 vs)) = true) (hl : ds.length ≤ 1000000)
    (h : ∀ d ∈ ds, ∃ e1, t d (wipeE e0 vs) = .ok () e1 ∧ ((f d = none ∧ ∃ e2, tt e1 = .ok false e2 ∧ vs.all (imAt e2) = true ∧ wipeE e2 vs = wipeE e0 vs) ∨ ∃ y, f d = some y ∧ ∃ e2 e3, tt e1 = .ok true e2 ∧ te e2 = .ok y e3 ∧ vs.all (imAt e3) = true ∧ wipeE e3 vs = wipeE e0 vs)) :
    compE vs fi t tt te e = .ok (.list (ds.filterMap f)) e0 := by
  unfold compE bnd
  rw [hi]
  simp only [hw, if_true, compL_eq h, hw2, Bool.and_true]
  rw [if_pos (few_le' (Nat.le_trans (List.length_filterMap_le _ _) hl)), hb]
theorem wipe1 {e : Env} {s : Nat} {x : Option M} : wipeE (e.set s x) [s] = e.set s none := by
  show (e.set s x).set s none = _
  rw [List.set_set]
theorem wipe1' {e : Env} {s : Nat} : wipeE e [s] = e.set s none := rfl
theorem back1 {e : Env} {s : Nat} : backE (e.set s none) e [s] = e := by
  apply List.ext_getElem?
  intro i
  by_cases h : i ∈ [s]
  · rw [backE_in (by rw [List.length_set]) h]
  · rw [backE_out h]
    simp at h
    rw [List.getElem?_set_ne (Ne.symm h)]
theorem imAt_set {e : Env} {s : Nat} {d : D} : imAt (e.set s (some (.im d))) s = true ∧ imAt (e.set s none) s = true := by
  unfold imAt
  by_cases h : s < e.length
  · rw [List.getElem?_set_self h, List.getElem?_set_self h]
    exact ⟨rfl, rfl⟩
  · rw [List.getElem?_eq_none (by rw [List.length_set]; omega), List.getElem?_eq_none (by rw [List.length_set]; omega)]
    exact ⟨rfl, rfl⟩
/-- a comprehension with one name -/
theorem comp1 {s : Nat} {fi : EM (List D)} {tt : EM Bool} {te : EM D} {e : Env} {ds : List D} {b : D → Bool} {f : D → D} (hs : s < e.length) (him : imAt e s = true) (hi : fi e = .ok ds e) (hl : ds.length ≤ 1000000)
    (h : ∀ d ∈ ds, tt (e.set s (some (.im d))) = .ok (b d) (e.set s (some (.im d))) ∧ (b d = true → te (e.set s (some (.im d))) = .ok (f d) (e.set s (some (.im d))))) : compE [s] fi (gN s) tt te e = .ok (.list ((ds.filter b).map f)) e := by
  have q := compE_eq (vs := [s]) (t := gN s) (tt := tt) (te := te) (f := fun d => if b d then some (f d) else none) hi (by simp [FD.ret, FD.lif, FD.bnd, FD.var, FD.bin, FD.un, FD.tst, FD.andT, FD.orT, FD.notT, FD.andV, FD.orV, FD.notV, FD.ifE, FD.nilA, FD.consA, FD.tupE, FD.lstE, FD.seqS, FD.exprS, FD.retS, FD.retM, FD.ifS, FD.stoM, FD.setS, FD.setM, FD.gN, FD.gsNil, FD.gsCons, FD.gT, FD.goS, FD.asgS, FD.parS, FD.augS, FD.itE, FD.itA, FD.cbE, FD.slE, FD.intE, FD.arN, FD.arD, FD.arB, FD.callD, FD.callM, FD.slotsOf, FD.argM, FD.putB, FD.isIm, FD.endF, FD.backs, FD.args0, FD.defF, FD.chn, FD.lstM, FD.dtM, FD.dkM, FD.imM, FD.frzE, FD.has, FD.chk, FD.pk, FD.pkLen, FD.peekD, FD.pkL, FD.pkR, him]) (by rw [wipe1']; exact back1) (by rw [wipe1']; simp [FD.ret, FD.lif, FD.bnd, FD.var, FD.bin, FD.un, FD.tst, FD.andT, FD.orT, FD.notT, FD.andV, FD.orV, FD.notV, FD.ifE, FD.nilA, FD.consA, FD.tupE, FD.lstE, FD.seqS, FD.exprS, FD.retS, FD.retM, FD.ifS, FD.stoM, FD.setS, FD.setM, FD.gN, FD.gsNil, FD.gsCons, FD.gT, FD.goS, FD.asgS, FD.parS, FD.augS, FD.itE, FD.itA, FD.cbE, FD.slE, FD.intE, FD.arN, FD.arD, FD.arB, FD.callD, FD.callM, FD.slotsOf, FD.argM, FD.putB, FD.isIm, FD.endF, FD.backs, FD.args0, FD.defF, FD.chn, FD.lstM, FD.dtM, FD.dkM, FD.imM, FD.frzE, FD.has, FD.chk, FD.pk, FD.pkLen, FD.peekD, FD.pkL, FD.pkR, (imAt_set (d := .none)).2]) hl ?_
  · rw [q]
    congr 2
    clear q hi h hl
    induction ds with
    | nil => rfl
    | cons d ds ih =>
      rw [List.filterMap_cons, List.filter_cons]
      cases b d <;> simp [FD.ret, FD.lif, FD.bnd, FD.var, FD.bin, FD.un, FD.tst, FD.andT, FD.orT, FD.notT, FD.andV, FD.orV, FD.notV, FD.ifE, FD.nilA, FD.consA, FD.tupE, FD.lstE, FD.seqS, FD.exprS, FD.retS, FD.retM, FD.ifS, FD.stoM, FD.setS, FD.setM, FD.gN, FD.gsNil, FD.gsCons, FD.gT, FD.goS, FD.asgS, FD.parS, FD.augS, FD.itE, FD.itA, FD.cbE, FD.slE, FD.intE, FD.arN, FD.arD, FD.arB, FD.callD, FD.callM, FD.slotsOf, FD.argM, FD.putB, FD.isIm, FD.endF, FD.backs, FD.args0, FD.defF, FD.chn, FD.lstM, FD.dtM, FD.dkM, FD.imM, FD.frzE, FD.has, FD.chk, FD.pk, FD.pkLen, FD.peekD, FD.pkL, FD.pkR, ih]
  · intro d hd
    obtain ⟨h1, h2⟩ := h d hd
    refine ⟨e.set s (some (.im d)), ?_, ?_⟩
    · rw [wipe1']
      unfold gN
      rw [if_pos (by rw [List.length_set]; exact hs), List.set_set]
    · cases hb : b d with
      | false =>
        rw [hb] at h1
        exact .inl ⟨by simp [FD.ret, FD.lif, FD.bnd, FD.var, FD.bin, FD.un, FD.tst, FD.andT, FD.orT, FD.notT, FD.andV, FD.orV, FD.notV, FD.ifE, FD.nilA, FD.consA, FD.tupE, FD.lstE, FD.seqS, FD.exprS, FD.retS, FD.retM, FD.ifS, FD.stoM, FD.setS, FD.setM, FD.gN, FD.gsNil, FD.gsCons, FD.gT, FD.goS, FD.asgS, FD.parS, FD.augS, FD.itE, FD.itA, FD.cbE, FD.slE, FD.intE, FD.arN, FD.arD, FD.arB, FD.callD, FD.callM, FD.slotsOf, FD.argM, FD.putB, FD.isIm, FD.endF, FD.backs, FD.args0, FD.defF, FD.chn, FD.lstM, FD.dtM, FD.dkM, FD.imM, FD.frzE, FD.has, FD.chk, FD.pk, FD.pkLen, FD.peekD, FD.pkL, FD.pkR, hb], _, h1, by simp [FD.ret, FD.lif, FD.bnd, FD.var, FD.bin, FD.un, FD.tst, FD.andT, FD.orT, FD.notT, FD.andV, FD.orV, FD.notV, FD.ifE, FD.nilA, FD.consA, FD.tupE, FD.lstE, FD.seqS, FD.exprS, FD.retS, FD.retM, FD.ifS, FD.stoM, FD.setS, FD.setM, FD.gN, FD.gsNil, FD.gsCons, FD.gT, FD.goS, FD.asgS, FD.parS, FD.augS, FD.itE, FD.itA, FD.cbE, FD.slE, FD.intE, FD.arN, FD.arD, FD.arB, FD.callD, FD.callM, FD.slotsOf, FD.argM, FD.putB, FD.isIm, FD.endF, FD.backs, FD.args0, FD.defF, FD.chn, FD.lstM, FD.dtM, FD.dkM, FD.imM, FD.frzE, FD.has, FD.chk, FD.pk, FD.pkLen, FD.peekD, FD.pkL, FD.pkR, imAt_set.1], by rw [wipe1]; rfl⟩
      | true =>
        rw [hb] at h1
        exact .inr ⟨f d, by simp [FD.ret, FD.lif, FD.bnd, FD.var, FD.bin, FD.un, FD.tst, FD.andT, FD.orT, FD.notT, FD.andV, FD.orV, FD.notV, FD.ifE, FD.nilA, FD.consA, FD.tupE, FD.lstE, FD.seqS, FD.exprS, FD.retS, FD.retM, FD.ifS, FD.stoM, FD.setS, FD.setM, FD.gN, FD.gsNil, FD.gsCons, FD.gT, FD.goS, FD.asgS, FD.parS, FD.augS, FD.itE, FD.itA, FD.cbE, FD.slE, FD.intE, FD.arN, FD.arD, FD.arB, FD.callD, FD.callM, FD.slotsOf, FD.argM, FD.putB, FD.isIm, FD.endF, FD.backs, FD.args0, FD.defF, FD.chn, FD.lstM, FD.dtM, FD.dkM, FD.imM, FD.frzE, FD.has, FD.chk, FD.pk, FD.pkLen, FD.peekD, FD.pkL, FD.pkR, hb], _, _, h1, h2 hb, by simp [FD.ret, FD.lif, FD.bnd, FD.var, FD.bin, FD.un, FD.tst, FD.andT, FD.orT, FD.notT, FD.andV, FD.orV, FD.notV, FD.ifE, FD.nilA, FD.consA, FD.tupE, FD.lstE, FD.seqS, FD.exprS, FD.retS, FD.retM, FD.ifS, FD.stoM, FD.setS, FD.setM, FD.gN, FD.gsNil, FD.gsCons, FD.gT, FD.goS, FD.asgS, FD.parS, FD.augS, FD.itE, FD.itA, FD.cbE, FD.slE, FD.intE, FD.arN, FD.arD, FD.arB, FD.callD, FD.callM, FD.slotsOf, FD.argM, FD.putB, FD.isIm, FD.endF, FD.backs, FD.args0, FD.defF, FD.chn, FD.lstM, FD.dtM, FD.dkM, FD.imM, FD.frzE, FD.has, FD.chk, FD.pk, FD.pkLen, FD.peekD, FD.pkL, FD.pkR, imAt_set.1], by rw [wipe1]; rfl⟩
theorem compL2_eq {vs vs1 : List Nat} {t t1 : D → EM Unit} {tt tt1 : EM Bool} {fi1 : EM (List D)} {te : EM D} {e : Env} {f : D → List D} : ∀ {ds : List D},
    (∀ d ∈ ds, ∃ e1 e2 ds1 e3 e4, t d e = .ok () e1 ∧ tt e1 = .ok true e2 ∧ fi1 e2 = .ok ds1 e3 ∧ vs1.all (imAt e3) = true ∧ compL vs1 t1 tt1 te ds1 (wipeE e3 vs1) = .ok (f d) e4 ∧ vs.all (imAt e4) = true ∧ wipeE e4 vs = e) →
    compL2 vs vs1 t tt fi1 t1 tt1 te ds e = .ok (ds.flatMap f) e
  | [], _ => rfl
  | d :: ds, h => by
    obtain ⟨e1, e2, ds1, e3, e4, a1, a2, a3, a4, a5, a6, a7⟩ := h d List.mem_cons_self
    have ih := compL2_eq (ds := ds) fun d' hd => h d' (List.mem_cons_of_mem _ hd)
    unfold compL2
    simp only [a1, a2, a3, a4, a5, a6, a7, if_true, ih, List.flatMap_cons]
theorem compE2_eq {vs vs1 : List Nat} {fi fi1 : EM (List D)} {t t1 : D → EM Unit} {tt tt1 : EM Bool} {te : EM D} {e e0 : Env} {f : D → List D} {ds : List D} (hi : fi e = .ok ds e0) (hw : vs.all (imAt e0) = true) (hb : backE (wipeE e0 vs) e0 vs = e0) (hw2 : vs.all (imAt (wipeE e0 vs)) = true) (hl : (ds.flatMap f).length ≤ 1000000)
    (h : ∀ d ∈ ds, ∃ e1 e2 ds1 e3 e4, t d (wipeE e0 vs) = .ok () e1 ∧ tt e1 = .ok true e2 ∧ fi1 e2 = .ok ds1 e3 ∧ vs1.all (imAt e3) = true ∧ compL vs1 t1 tt1 te ds1 (wipeE e3 vs1) = .ok (f d) e4 ∧ vs.all (imAt e4) = true ∧ wipeE e4 vs = wipeE e0 vs) :
    compE2 vs vs1 fi t tt fi1 t1 tt1 te e = .ok (.list (ds.flatMap f)) e0 := by
  unfold compE2 bnd
  rw [hi]
  simp only [hw, if_true, compL2_eq h, hw2, Bool.and_true]
  rw [if_pos (few_le' hl), hb]
/-- a for that goes through, each turn leaving the same but the targets -/
theorem loopS_inv {t : D → EM Unit} {g : EM Flow} (I : List D → Env → Prop) : ∀ {ds : List D} {e : Env}, I ds e → (∀ d r e, (∃ l, ds = l ++ d :: r) → I (d :: r) e → ∃ e1 e2, t d e = .ok () e1 ∧ (g e1 = .ok .nxt e2 ∨ g e1 = .ok .cnt e2) ∧ I r e2) → ∃ e', loopS t g ds e = .ok .nxt e' ∧ I [] e'
  | [], e, h, _ => ⟨e, rfl, h⟩
  | d :: ds, e, h, st => by
    obtain ⟨e1, e2, a1, a2, a3⟩ := st d ds e ⟨[], rfl⟩ h
    obtain ⟨e', b1, b2⟩ := loopS_inv I (ds := ds) a3 fun d' r e' ⟨l, hl⟩ => st d' r e' ⟨d :: l, by rw [hl]; rfl⟩
    refine ⟨e', ?_, b2⟩
    unfold loopS
    rw [a1]
    rcases a2 with a2 | a2 <;> simp only [a2, b1]
theorem seqS_nxt {g1 g2 : EM Flow} {e e' : Env} (h : g1 e = .ok .nxt e') : seqS g1 g2 e = g2 e' := by
  unfold seqS
  rw [h]
theorem seqS_ret {g1 g2 : EM Flow} {e e' : Env} {m : M} (h : g1 e = .ok (.ret m) e') : seqS g1 g2 e = .ok (.ret m) e' := by
  unfold seqS
  rw [h]
/-- what the source of a for gives -/
theorem forS_eq {fi : EM (List D)} {t : D → EM Unit} {g : EM Flow} {e e0 : Env} {ds : List D} (h : fi e = .ok ds e0) : forS fi t g e = loopS t g ds e0 := by
  unfold forS bnd
  rw [h]
end FD

/-! FD: denotations run forward: what is wanted behind a part, as a question at its beginning; simp goes step by step. -/
namespace FD
open PySem L2
abbrev EX := Addr → List (Str × D) → Env → Prop
def wp {α : Type} (f : EM α) (e : Env) (Q : α → Env → Prop) (E : EX) : Prop := match f e with
  | .ok a e' => Q a e'
  | .ex C fs e' => E C fs e'
  | .no => False
def wpo {α : Type} (o : Option α) (Q : α → Env → Prop) (e : Env) : Prop := match o with
  | some a => Q a e
  | none => False
@[irreducible] def wpR (o : FOut) (K : M → List M → Prop) : Prop := match o with
  | .ok r ms => K r ms
  | _ => False
theorem wp_eq {α : Type} {f : EM α} {e e' : Env} {a : α} (h : wp f e (fun x y => x = a ∧ y = e') (fun _ _ _ => False)) : f e = .ok a e' := by
  unfold wp at h
  split at h
  · rename_i x y q; rw [q, h.1, h.2]
  · exact h.elim
  · exact h.elim
theorem wpR_eq {o : FOut} {r : M} {ms : List M} (h : wpR o fun x y => x = r ∧ y = ms) : o = .ok r ms := by
  unfold wpR at h
  split at h
  · rw [h.1, h.2]
  · exact h.elim
theorem wpR_ex {o : FOut} {K : M → List M → Prop} (h : wpR o K) : ∃ r ms, o = .ok r ms ∧ K r ms := by
  unfold wpR at h
  split at h
  · exact ⟨_, _, rfl, h⟩
  · exact h.elim
theorem wp_mono {α : Type} {f : EM α} {e : Env} {Q Q' : α → Env → Prop} {E : EX} (h : wp f e Q E) (w : ∀ a e', Q a e' → Q' a e') : wp f e Q' E := by
  unfold wp at h ⊢
  split at h
  · exact w _ _ h
  · exact h
  · exact h
theorem wpR_mono {o : FOut} {K K' : M → List M → Prop} (h : wpR o K) (w : ∀ a e', K a e' → K' a e') : wpR o K' := by
  unfold wpR at h ⊢
  split at h
  · exact w _ _ h
  · exact h
section
variable {α β : Type} {Q : α → Env → Prop} {E : EX} {e : Env}
@[simp] theorem wp_bnd {f : EM β} {k : β → EM α} : wp (bnd f k) e Q E = wp f e (fun a e1 => wp (k a) e1 Q E) E := by
  unfold wp bnd
  cases f e <;> rfl
@[simp] theorem wp_ret {a : α} : wp (ret a) e Q E = Q a e := rfl
@[simp] theorem wp_lif {o : Option α} : wp (lif o) e Q E = wpo o Q e := by cases o <;> rfl
@[simp] theorem wpo_some {a : α} : wpo (some a) Q e = Q a e := rfl
@[simp] theorem wpo_none : wpo (none : Option α) Q e = False := rfl
@[simp] theorem wpo_if {c : Prop} [Decidable c] {a : α} : wpo (if c then some a else none) Q e = (c ∧ Q a e) := by
  by_cases h : c
  · rw [if_pos h]; simp [wpo, h]
  · rw [if_neg h]; simp [wpo, h]
@[simp] theorem wpR_ok {r : M} {ms : List M} {K : M → List M → Prop} : wpR (.ok r ms) K = K r ms := by unfold wpR; rfl
end
section
variable {Q : D → Env → Prop} {QB : Bool → Env → Prop} {QL : List D → Env → Prop} {QO : Option Int → Env → Prop} {QA : List AR → Env → Prop} {QM : M → Env → Prop} {QS : Flow → Env → Prop} {QU : Unit → Env → Prop} {E : EX} {e : Env}
variable {f fa fb fc : EM D} {g : D → D → Option D} {t ta tb : EM Bool} {fs : EM (List D)}
/-! ### values -/
def kVar (i : Nat) (Q : D → Env → Prop) (e : Env) : Option (Option M) → Prop
  | some (some (.im d)) => Q d e
  | some (some m) => wpo m.toD (fun d _ => Q d (e.set i (some (.im d)))) e
  | _ => False
@[simp] theorem wp_var {i : Nat} : wp (var i) e Q E = kVar i Q e e[i]? := by
  unfold wp var
  cases h : e[i]? with
  | none => rfl
  | some o => cases o with
    | none => rfl
    | some m =>
      cases m with
      | im d => rfl
      | ls ms => simp only [kVar]; cases M.toD (.ls ms) <;> rfl
      | dk ms => simp only [kVar]; cases M.toD (.dk ms) <;> rfl
      | dt ms => simp only [kVar]; cases M.toD (.dt ms) <;> rfl
      | ob C ms => simp only [kVar]; cases M.toD (.ob C ms) <;> rfl
      | gone => rfl
@[simp] theorem kVar_im {i : Nat} {d : D} : kVar i Q e (some (some (.im d))) = Q d e := rfl
def kFrz (i : Nat) (Q : D → Env → Prop) : D → Env → Prop := fun d e => Q d (e.set i (some (.im d)))
@[simp] theorem kFrz_at {i : Nat} {d : D} : kFrz i Q d e = Q d (e.set i (some (.im d))) := rfl
@[simp] theorem kVar_ls {i : Nat} {ms : List M} : kVar i Q e (some (some (.ls ms))) = wpo (M.ls ms).toD (kFrz i Q) e := by unfold kVar wpo kFrz; rfl
@[simp] theorem kVar_dk {i : Nat} {ms : List (Key × M)} : kVar i Q e (some (some (.dk ms))) = wpo (M.dk ms).toD (kFrz i Q) e := by unfold kVar wpo kFrz; rfl
@[simp] theorem kVar_dt {i : Nat} {ms : List (List Key × M)} : kVar i Q e (some (some (.dt ms))) = wpo (M.dt ms).toD (kFrz i Q) e := by unfold kVar wpo kFrz; rfl
def kBin1 (g : D → D → Option D) (fb : EM D) (Q : D → Env → Prop) (E : EX) : D → Env → Prop := fun x e1 => wp fb e1 (fun y e2 => wpo (g x y) Q e2) E
def kBin2 (g : D → D → Option D) (x : D) (Q : D → Env → Prop) : D → Env → Prop := fun y e2 => wpo (g x y) Q e2
@[simp] theorem wp_bin : wp (bin g fa fb) e Q E = wp fa e (kBin1 g fb Q E) E := by
  unfold bin; rw [wp_bnd]; congr; funext x e1; rw [wp_bnd]; unfold kBin1; congr; funext y e2; rw [wp_lif]
@[simp] theorem kBin1_at {x : D} {e1 : Env} : kBin1 g fb Q E x e1 = wp fb e1 (kBin2 g x Q) E := rfl
@[simp] theorem kBin2_at {x y : D} {e2 : Env} : kBin2 g x Q y e2 = wpo (g x y) Q e2 := rfl
def kUn (g : D → Option D) (Q : D → Env → Prop) : D → Env → Prop := fun x e1 => wpo (g x) Q e1
@[simp] theorem wp_un {g : D → Option D} : wp (un g fa) e Q E = wp fa e (kUn g Q) E := by
  unfold un; rw [wp_bnd]; congr; funext x e1; rw [wp_lif]; rfl
@[simp] theorem kUn_at {g : D → Option D} {x : D} {e1 : Env} : kUn g Q x e1 = wpo (g x) Q e1 := rfl
def kTst (Q : Bool → Env → Prop) : D → Env → Prop := fun d e => match d with
  | .bool b => Q b e
  | _ => False
@[simp] theorem wp_tst : wp (tst f) e QB E = wp f e (kTst QB) E := by
  unfold tst; rw [wp_bnd]; congr; funext x e1; cases x <;> rfl
@[simp] theorem kTst_at {b : Bool} {e1 : Env} : kTst QB (.bool b) e1 = QB b e1 := rfl
def kIf {α : Type} (x y : EM α) (Q : α → Env → Prop) (E : EX) : Bool → Env → Prop := fun b e => if b then wp x e Q E else wp y e Q E
@[simp] theorem kIf_t {α : Type} {x y : EM α} {Q : α → Env → Prop} {e1 : Env} : kIf x y Q E true e1 = wp x e1 Q E := rfl
@[simp] theorem kIf_f {α : Type} {x y : EM α} {Q : α → Env → Prop} {e1 : Env} : kIf x y Q E false e1 = wp y e1 Q E := rfl
theorem wp_kif {α : Type} {x y : EM α} {Q : α → Env → Prop} {b : Bool} {e1 : Env} : wp (if b then x else y) e1 Q E = kIf x y Q E b e1 := by cases b <;> rfl
@[simp] theorem wp_andT : wp (andT ta tb) e QB E = wp ta e (kIf tb (ret false) QB E) E := by
  unfold andT; rw [wp_bnd]; congr; funext x e1; exact wp_kif
@[simp] theorem wp_orT : wp (orT ta tb) e QB E = wp ta e (kIf (ret true) tb QB E) E := by
  unfold orT; rw [wp_bnd]; congr; funext x e1; exact wp_kif
def kNot (Q : Bool → Env → Prop) : Bool → Env → Prop := fun b e => Q (!b) e
@[simp] theorem wp_notT : wp (notT ta) e QB E = wp ta e (kNot QB) E := by
  unfold notT; rw [wp_bnd]; rfl
@[simp] theorem kNot_at {b : Bool} {e1 : Env} : kNot QB b e1 = QB (!b) e1 := rfl
def kBV (x y : EM D) (Q : D → Env → Prop) (E : EX) : D → Env → Prop := fun d e => match d with
  | .bool b => kIf x y Q E b e
  | _ => False
@[simp] theorem kBV_at {x y : EM D} {b : Bool} {e1 : Env} : kBV x y Q E (.bool b) e1 = kIf x y Q E b e1 := rfl
@[simp] theorem wp_andV : wp (andV fa fb) e Q E = wp fa e (kBV fb (ret (.bool false)) Q E) E := by
  unfold andV; rw [wp_bnd]; congr; funext x e1; cases x <;> first | rfl | (rename_i b; cases b <;> rfl)
@[simp] theorem wp_orV : wp (orV fa fb) e Q E = wp fa e (kBV (ret (.bool true)) fb Q E) E := by
  unfold orV; rw [wp_bnd]; congr; funext x e1; cases x <;> first | rfl | (rename_i b; cases b <;> rfl)
def kNotV (Q : D → Env → Prop) : D → Env → Prop := fun d e => match d with
  | .bool b => Q (.bool (!b)) e
  | _ => False
@[simp] theorem wp_notV : wp (notV fa) e Q E = wp fa e (kNotV Q) E := by
  unfold notV; rw [wp_bnd]; congr; funext x e1; cases x <;> rfl
@[simp] theorem kNotV_at {b : Bool} {e1 : Env} : kNotV Q (.bool b) e1 = Q (.bool (!b)) e1 := rfl
@[simp] theorem wp_ifE : wp (ifE t fa fb) e Q E = wp t e (kIf fa fb Q E) E := by
  unfold ifE; rw [wp_bnd]; congr; funext x e1; exact wp_kif
def kChn1 (g g' : D → D → Option D) (fb fc : EM D) (Q : D → Env → Prop) (E : EX) : D → Env → Prop := fun x e1 => wp fb e1 (fun y e2 => wpo (g x y) (kBV (fun e => bnd fc (fun z => lif (g' y z)) e) (ret (.bool false)) Q E) e2) E
def kChn2 (g g' : D → D → Option D) (fc : EM D) (x : D) (Q : D → Env → Prop) (E : EX) : D → Env → Prop := fun y e2 => wpo (g x y) (kBV (fun e => bnd fc (fun z => lif (g' y z)) e) (ret (.bool false)) Q E) e2
@[simp] theorem wp_chn {g g' : D → D → Option D} : wp (chn g g' fa fb fc) e Q E = wp fa e (kChn1 g g' fb fc Q E) E := by
  unfold chn; rw [wp_bnd]; congr; funext x e1; rw [wp_bnd]; unfold kChn1; congr; funext y e2; rw [wp_bnd, wp_lif]; congr; funext k e3
  cases k <;> first | rfl | (rename_i b; cases b <;> rfl)
@[simp] theorem kChn1_at {g g' : D → D → Option D} {x : D} {e1 : Env} : kChn1 g g' fb fc Q E x e1 = wp fb e1 (kChn2 g g' fc x Q E) E := rfl
@[simp] theorem kChn2_at {g g' : D → D → Option D} {x y : D} {e1 : Env} : kChn2 g g' fc x Q E y e1 = wpo (g x y) (kBV (bin g' (ret y) fc) (ret (.bool false)) Q E) e1 := rfl
/-! ### rows -/
@[simp] theorem wp_nilA : wp nilA e QL E = QL [] e := rfl
def kCons1 (fs : EM (List D)) (Q : List D → Env → Prop) (E : EX) : D → Env → Prop := fun d e1 => wp fs e1 (fun ds e2 => Q (d :: ds) e2) E
def kCons2 (d : D) (Q : List D → Env → Prop) : List D → Env → Prop := fun ds e2 => Q (d :: ds) e2
@[simp] theorem wp_consA : wp (consA f fs) e QL E = wp f e (kCons1 fs QL E) E := by
  unfold consA; rw [wp_bnd]; congr; funext x e1; rw [wp_bnd]; rfl
@[simp] theorem kCons1_at {d : D} {e1 : Env} : kCons1 fs QL E d e1 = wp fs e1 (kCons2 d QL) E := rfl
@[simp] theorem kCons2_at {d : D} {ds : List D} {e1 : Env} : kCons2 d QL ds e1 = QL (d :: ds) e1 := rfl
def kRow (g : List D → Option D) (Q : D → Env → Prop) : List D → Env → Prop := fun ds e => wpo (g ds) Q e
@[simp] theorem kRow_at {g : List D → Option D} {ds : List D} {e1 : Env} : kRow g Q ds e1 = wpo (g ds) Q e1 := rfl
def mkT (ds : List D) : Option D := if few ds.length then some (.tuple ds) else none
def mkL (ds : List D) : Option D := if few ds.length then some (.list ds) else none
@[simp] theorem wp_tupE : wp (tupE fs) e Q E = wp fs e (kRow mkT Q) E := by
  unfold tupE; rw [wp_bnd]; congr; funext x e1; rw [wp_lif]; rfl
@[simp] theorem wp_lstE : wp (lstE fs) e Q E = wp fs e (kRow mkL Q) E := by
  unfold lstE; rw [wp_bnd]; congr; funext x e1; rw [wp_lif]; rfl
@[simp] theorem wpo_mkT {ds : List D} : wpo (mkT ds) Q e = (ds.length ≤ 1000000 ∧ Q (.tuple ds) e) := by
  unfold mkT; rw [wpo_if]; simp [few]
@[simp] theorem wpo_mkL {ds : List D} : wpo (mkL ds) Q e = (ds.length ≤ 1000000 ∧ Q (.list ds) e) := by
  unfold mkL; rw [wpo_if]; simp [few]
@[simp] theorem wp_cbE {g : List D → Option D} : wp (cbE g fs) e Q E = wp fs e (kRow g Q) E := by
  unfold cbE; rw [wp_bnd]; congr; funext x e1; rw [wp_lif]; rfl
def kInt (Q : Option Int → Env → Prop) : D → Env → Prop := fun d e => match d with
  | .int i => Q (some i) e
  | _ => False
@[simp] theorem wp_intE : wp (intE f) e QO E = wp f e (kInt QO) E := by
  unfold intE; rw [wp_bnd]; congr; funext x e1; cases x <;> rfl
@[simp] theorem kInt_at {i : Int} {e1 : Env} : kInt QO (.int i) e1 = QO (some i) e1 := rfl
def kSl1 (fl fh : EM (Option Int)) (Q : D → Env → Prop) (E : EX) : D → Env → Prop := fun d e1 => wp fl e1 (fun lo e2 => wp fh e2 (fun hi e3 => wpo (slD d lo hi) Q e3) E) E
def kSl2 (fh : EM (Option Int)) (d : D) (Q : D → Env → Prop) (E : EX) : Option Int → Env → Prop := fun lo e2 => wp fh e2 (fun hi e3 => wpo (slD d lo hi) Q e3) E
def kSl3 (d : D) (lo : Option Int) (Q : D → Env → Prop) : Option Int → Env → Prop := fun hi e3 => wpo (slD d lo hi) Q e3
@[simp] theorem wp_slE {fl fh : EM (Option Int)} : wp (slE fa fl fh) e Q E = wp fa e (kSl1 fl fh Q E) E := by
  unfold slE; rw [wp_bnd]; congr; funext x e1; rw [wp_bnd]; unfold kSl1; congr; funext x e1; rw [wp_bnd]; congr; funext x e1; rw [wp_lif]
@[simp] theorem kSl1_at {fl fh : EM (Option Int)} {d : D} {e1 : Env} : kSl1 fl fh Q E d e1 = wp fl e1 (kSl2 fh d Q E) E := rfl
@[simp] theorem kSl2_at {fh : EM (Option Int)} {d : D} {lo : Option Int} {e1 : Env} : kSl2 fh d Q E lo e1 = wp fh e1 (kSl3 d lo Q) E := rfl
@[simp] theorem kSl3_at {d : D} {lo hi : Option Int} {e1 : Env} : kSl3 d lo Q hi e1 = wpo (slD d lo hi) Q e1 := rfl
def kIt (g : D → Option (List D)) (Q : List D → Env → Prop) : D → Env → Prop := fun d e => wpo (g d) Q e
@[simp] theorem wp_itE {g : D → Option (List D)} : wp (itE g f) e QL E = wp f e (kIt g QL) E := by
  unfold itE; rw [wp_bnd]; congr; funext x e1; rw [wp_lif]; rfl
@[simp] theorem kIt_at {g : D → Option (List D)} {d : D} {e1 : Env} : kIt g QL d e1 = wpo (g d) QL e1 := rfl
def kItA (g : List D → Option (List D)) (Q : List D → Env → Prop) : List D → Env → Prop := fun d e => wpo (g d) Q e
@[simp] theorem wp_itA {g : List D → Option (List D)} : wp (itA g fs) e QL E = wp fs e (kItA g QL) E := by
  unfold itA; rw [wp_bnd]; congr; funext x e1; rw [wp_lif]; rfl
@[simp] theorem kItA_at {g : List D → Option (List D)} {d : List D} {e1 : Env} : kItA g QL d e1 = wpo (g d) QL e1 := rfl
/-! ### calls -/
@[simp] theorem wp_arN : wp arN e QA E = QA [] e := rfl
def kAr1 (fr : EM (List AR)) (Q : List AR → Env → Prop) (E : EX) : D → Env → Prop := fun d e1 => wp fr e1 (fun as e2 => Q (.d d :: as) e2) E
def kAr2 (a : AR) (Q : List AR → Env → Prop) : List AR → Env → Prop := fun as e2 => Q (a :: as) e2
@[simp] theorem wp_arD {fr : EM (List AR)} : wp (arD f fr) e QA E = wp f e (kAr1 fr QA E) E := by
  unfold arD; rw [wp_bnd]; congr; funext x e1; rw [wp_bnd]; rfl
@[simp] theorem kAr1_at {fr : EM (List AR)} {d : D} {e1 : Env} : kAr1 fr QA E d e1 = wp fr e1 (kAr2 (.d d) QA) E := rfl
@[simp] theorem kAr2_at {a : AR} {as : List AR} {e1 : Env} : kAr2 a QA as e1 = QA (a :: as) e1 := rfl
@[simp] theorem wp_arB {s : Nat} {fr : EM (List AR)} : wp (arB s fr) e QA E = ((∃ m, e[s]? = some (some m)) ∧ wp fr e (kAr2 (.b s) QA) E) := by
  unfold arB wp
  cases h : e[s]? with
  | none => simp [h]
  | some o => cases o with
    | none => simp [h]
    | some m =>
      simp only [bnd, h]
      cases fr e <;> simp [ret, kAr2]
def kKw1 (n m : Nat) (ix : List (Nat ⊕ Nat)) (ds : List D) (frk : EM (List AR)) (Q : List AR → Env → Prop) (E : EX) : List AR → Env → Prop := fun as e1 => wp frk e1 (fun bs e2 => as.length = n ∧ bs.length = m ∧ Q (pick (as ++ bs) (ds.map .d) ix) e2) E
def kKw2 (n m : Nat) (ix : List (Nat ⊕ Nat)) (ds : List D) (as : List AR) (Q : List AR → Env → Prop) : List AR → Env → Prop := fun bs e2 => as.length = n ∧ bs.length = m ∧ Q (pick (as ++ bs) (ds.map .d) ix) e2
@[simp] theorem wp_kwA {n m : Nat} {ix : List (Nat ⊕ Nat)} {ds : List D} {fr frk : EM (List AR)} : wp (kwA n m ix ds fr frk) e QA E = wp fr e (kKw1 n m ix ds frk QA E) E := by
  unfold kwA; rw [wp_bnd]; congr; funext x e1; rw [wp_bnd]; unfold kKw1; congr; funext y e2; rw [wp_lif, wpo_if]; simp [and_assoc]
@[simp] theorem kKw1_at {n m : Nat} {ix : List (Nat ⊕ Nat)} {ds : List D} {frk : EM (List AR)} {as : List AR} {e1 : Env} : kKw1 n m ix ds frk QA E as e1 = wp frk e1 (kKw2 n m ix ds as QA) E := rfl
@[simp] theorem kKw2_at {n m : Nat} {ix : List (Nat ⊕ Nat)} {ds : List D} {as bs : List AR} {e1 : Env} : kKw2 n m ix ds as QA bs e1 = (as.length = n ∧ bs.length = m ∧ QA (pick (as ++ bs) (ds.map .d) ix) e1) := rfl
def kCall (Fs : List M → FOut) (Q : M → Env → Prop) : List AR → Env → Prop := fun as e => (slotsOf as).Nodup ∧ ∃ ms, argM e as = some ms ∧ wpR (Fs ms) fun r ms' => ms'.length = ms.length ∧ Q r (putB e as ms')
def kGo (as : List AR) (n : Nat) (Q : M → Env → Prop) (e : Env) : M → List M → Prop := fun r ms' => ms'.length = n ∧ Q r (putB e as ms')
def kCall2 (Fs : List M → FOut) (as : List AR) (Q : M → Env → Prop) (e : Env) : Option (List M) → Prop
  | some ms => wpR (Fs ms) (kGo as ms.length Q e)
  | none => False
@[simp] theorem wp_callM {Fs : List M → FOut} {fr : EM (List AR)} : wp (callM Fs fr) e QM E = wp fr e (kCall Fs QM) E := by
  unfold callM; rw [wp_bnd]; congr; funext as e1
  unfold wp kCall
  by_cases h : (slotsOf as).Nodup
  · simp only [h, if_true, true_and]
    cases q : argM e1 as with
    | none => simp
    | some ms =>
      simp only [Option.some.injEq, exists_eq_left']
      unfold wpR
      cases z : Fs ms with
      | ok r ms' =>
        by_cases hl : ms'.length = ms.length <;> simp [hl]
      | ex => rfl
      | no => rfl
  · simp [h]
@[simp] theorem kCall_at {Fs : List M → FOut} {as : List AR} {e1 : Env} : kCall Fs QM as e1 = ((slotsOf as).Nodup ∧ kCall2 Fs as QM e1 (argM e1 as)) := by
  unfold kCall
  cases q : argM e1 as with
  | none => simp [kCall2]
  | some ms => simp only [Option.some.injEq, exists_eq_left']; rfl
@[simp] theorem kCall2_at {Fs : List M → FOut} {as : List AR} {e1 : Env} {ms : List M} : kCall2 Fs as QM e1 (some ms) = wpR (Fs ms) (kGo as ms.length QM e1) := rfl
@[simp] theorem kGo_at {as : List AR} {n : Nat} {r : M} {ms : List M} : kGo as n QM e r ms = (ms.length = n ∧ QM r (putB e as ms)) := rfl
def kToD (Q : D → Env → Prop) : M → Env → Prop := fun m e => wpo m.toD Q e
@[simp] theorem wp_callD {Fs : List M → FOut} {fr : EM (List AR)} : wp (callD Fs fr) e Q E = wp fr e (kCall Fs (kToD Q)) E := by
  unfold callD; rw [wp_bnd, ← wp_callM]; congr; funext x e1; rw [wp_lif]; rfl
@[simp] theorem kToD_im {d : D} {e1 : Env} : kToD Q (.im d) e1 = Q d e1 := rfl
@[simp] theorem kToD_at {m : M} {e1 : Env} : kToD Q m e1 = wpo m.toD Q e1 := rfl
@[simp] theorem wp_frzE {fm : EM M} : wp (frzE fm) e Q E = wp fm e (kToD Q) E := by
  unfold frzE; rw [wp_bnd]; congr; funext x e1; rw [wp_lif]; rfl
/-! ### owned things -/
def mkLs (ds : List D) : Option M := if few ds.length then some (.ls (ds.map .im)) else none
def kRowM (g : List D → Option M) (Q : M → Env → Prop) : List D → Env → Prop := fun ds e => wpo (g ds) Q e
@[simp] theorem kRowM_at {g : List D → Option M} {ds : List D} {e1 : Env} : kRowM g QM ds e1 = wpo (g ds) QM e1 := rfl
@[simp] theorem wp_lstM : wp (lstM fs) e QM E = wp fs e (kRowM mkLs QM) E := by
  unfold lstM; rw [wp_bnd]; congr; funext x e1; unfold kRowM mkLs
  by_cases h : few x.length = true <;> simp only [h, if_true, if_false] <;> rfl
@[simp] theorem wpo_mkLs {ds : List D} : wpo (mkLs ds) QM e = (ds.length ≤ 1000000 ∧ QM (.ls (ds.map .im)) e) := by
  unfold mkLs; rw [wpo_if]; simp [few]
@[simp] theorem wp_dtM : wp dtM e QM E = QM (.dt []) e := rfl
@[simp] theorem wp_dkM : wp dkM e QM E = QM (.dk []) e := rfl
def kImM (Q : M → Env → Prop) : D → Env → Prop := fun d e => Q (.im d) e
@[simp] theorem wp_imM : wp (imM f) e QM E = wp f e (kImM QM) E := by unfold imM; rw [wp_bnd]; rfl
@[simp] theorem kImM_at {d : D} {e1 : Env} : kImM QM d e1 = QM (.im d) e1 := rfl
def kCat1 (fb : EM D) (Q : M → Env → Prop) (E : EX) : D → Env → Prop := fun x e1 => wp fb e1 (fun y e2 => match x, y with
  | .list xs, .list ys => few (xs.length + ys.length) = true ∧ Q (.ls ((xs ++ ys).map .im)) e2
  | _, _ => False) E
@[simp] theorem wp_catM : wp (catM fa fb) e QM E = wp fa e (kCat1 fb QM E) E := by
  unfold catM; rw [wp_bnd]; congr; funext x e1; rw [wp_bnd]; unfold kCat1; congr; funext y e2
  cases x <;> try rfl
  cases y <;> try rfl
  rename_i xs ys
  by_cases h : few (xs.length + ys.length) = true
  · simp only [h, if_true, true_and]; rfl
  · show wp (if few (xs.length + ys.length) = true then ret (M.ls (List.map M.im (xs ++ ys))) else fun x => Out.no) e2 QM E = (few (xs.length + ys.length) = true ∧ QM (M.ls (List.map M.im (xs ++ ys))) e2)
    rw [if_neg h]; exact propext ⟨fun z => z.elim, fun z => h z.1⟩
def kCat2 (xs : List D) (Q : M → Env → Prop) : D → Env → Prop := fun y e2 => match y with
  | .list ys => few (xs.length + ys.length) = true ∧ Q (.ls ((xs ++ ys).map .im)) e2
  | _ => False
@[simp] theorem kCat1_at {xs : List D} {e1 : Env} : kCat1 fb QM E (.list xs) e1 = wp fb e1 (kCat2 xs QM) E := by
  unfold kCat1; congr; funext y e2; cases y <;> rfl
@[simp] theorem kCat2_at {xs ys : List D} {e1 : Env} : kCat2 xs QM (.list ys) e1 = (xs.length + ys.length ≤ 1000000 ∧ QM (.ls ((xs ++ ys).map .im)) e1) := by simp [kCat2, few]
@[simp] theorem wp_chk {α : Type} {i : Nat} {g : EM α} {Q : α → Env → Prop} : wp (chk i g) e Q E = (has i e = true ∧ wp g e Q E) := by
  unfold wp chk
  by_cases h : has i e = true <;> simp [h]
def kPk {α : Type} (i : Nat) (g : D → Option α) (Q : α → Env → Prop) (e : Env) : Option D → Prop
  | some d => wpo (g d) Q e
  | none => False
@[simp] theorem wp_pk {α : Type} {i : Nat} {g : D → Option α} {Q : α → Env → Prop} : wp (pk i g) e Q E = kPk i g Q e (peekD i e) := by
  unfold wp pk
  cases peekD i e with
  | none => rfl
  | some d => simp only [kPk]; cases g d <;> rfl
@[simp] theorem kPk_at {α : Type} {i : Nat} {g : D → Option α} {Q : α → Env → Prop} {d : D} : kPk i g Q e (some d) = wpo (g d) Q e := rfl
def kPkL (i : Nat) (g : D → D → Option D) (Q : D → Env → Prop) : D → Env → Prop := fun y e => kPk i (fun d => g d y) Q e (peekD i e)
@[simp] theorem wp_pkL {i : Nat} : wp (pkL i g fb) e Q E = (has i e = true ∧ wp fb e (kPkL i g Q) E) := by
  unfold pkL; rw [wp_chk, wp_bnd]; congr; funext x e1; rw [wp_pk]; rfl
@[simp] theorem kPkL_at {i : Nat} {y : D} {e1 : Env} : kPkL i g Q y e1 = kPk i (fun d => g d y) Q e1 (peekD i e1) := rfl
def kPkR (i : Nat) (g : D → D → Option D) (Q : D → Env → Prop) : D → Env → Prop := fun y e => has i e = true ∧ kPk i (fun d => g y d) Q e (peekD i e)
@[simp] theorem wp_pkR {i : Nat} : wp (pkR i g fa) e Q E = wp fa e (kPkR i g Q) E := by
  unfold pkR; rw [wp_bnd]; congr; funext x e1; rw [wp_chk, wp_pk]; rfl
@[simp] theorem kPkR_at {i : Nat} {y : D} {e1 : Env} : kPkR i g Q y e1 = (has i e1 = true ∧ kPk i (fun d => g y d) Q e1 (peekD i e1)) := rfl
@[simp] theorem wp_pkLen {i : Nat} : wp (pkLen i) e Q E = (has i e = true ∧ kPk i (fun d => lenD [d]) Q e (peekD i e)) := by
  unfold pkLen; rw [wp_chk, wp_pk]
def kIxA (i : Nat) (Q : D → Env → Prop) : D → Env → Prop := fun y e => wpo (itemA i y e) Q e
@[simp] theorem wp_pkIxA {i : Nat} : wp (pkIxA i fb) e Q E = (has i e = true ∧ wp fb e (kIxA i Q) E) := by
  unfold pkIxA; rw [wp_chk, wp_bnd]; congr; funext x e1; unfold wp; cases h : itemA i x e1 <;> simp [kIxA, lif, h, wpo]
@[simp] theorem kIxA_at {i : Nat} {y : D} {e1 : Env} : kIxA i Q y e1 = wpo (itemA i y e1) Q e1 := rfl
/-! ### statements -/
def kSeq (g : EM Flow) (Q : Flow → Env → Prop) (E : EX) : Flow → Env → Prop
  | .nxt, e => wp g e Q E
  | fl, e => Q fl e
@[simp] theorem wp_seqS {g1 g2 : EM Flow} : wp (seqS g1 g2) e QS E = wp g1 e (kSeq g2 QS E) E := by
  unfold wp seqS
  cases g1 e with
  | ok a e' => cases a <;> rfl
  | ex => rfl
  | no => rfl
@[simp] theorem kSeq_nxt {g2 : EM Flow} : kSeq g2 QS E .nxt e = wp g2 e QS E := rfl
@[simp] theorem kSeq_ret {g2 : EM Flow} {m : M} : kSeq g2 QS E (.ret m) e = QS (.ret m) e := rfl
@[simp] theorem kSeq_brk {g2 : EM Flow} : kSeq g2 QS E .brk e = QS .brk e := rfl
@[simp] theorem kSeq_cnt {g2 : EM Flow} : kSeq g2 QS E .cnt e = QS .cnt e := rfl
def kEx (Q : Flow → Env → Prop) : D → Env → Prop := fun _ e => Q .nxt e
@[simp] theorem wp_exprS : wp (exprS f) e QS E = wp f e (kEx QS) E := by unfold exprS; rw [wp_bnd]; rfl
@[simp] theorem kEx_at {d : D} {e1 : Env} : kEx QS d e1 = QS .nxt e1 := rfl
def kRt (Q : Flow → Env → Prop) : D → Env → Prop := fun d e => Q (.ret (.im d)) e
@[simp] theorem wp_retS : wp (retS f) e QS E = wp f e (kRt QS) E := by unfold retS; rw [wp_bnd]; rfl
@[simp] theorem kRt_at {d : D} {e1 : Env} : kRt QS d e1 = QS (.ret (.im d)) e1 := rfl
def kRtM (Q : Flow → Env → Prop) : M → Env → Prop := fun d e => Q (.ret d) e
@[simp] theorem wp_retM {fm : EM M} : wp (retM fm) e QS E = wp fm e (kRtM QS) E := by unfold retM; rw [wp_bnd]; rfl
@[simp] theorem kRtM_at {d : M} {e1 : Env} : kRtM QS d e1 = QS (.ret d) e1 := rfl
@[simp] theorem wp_ifS {g1 g2 : EM Flow} : wp (ifS t g1 g2) e QS E = wp t e (kIf g1 g2 QS E) E := by
  unfold ifS; rw [wp_bnd]; congr; funext x e1; exact wp_kif
def kSet (i : Nat) (Q : Flow → Env → Prop) : D → Env → Prop := fun d e => i < e.length ∧ Q .nxt (e.set i (some (.im d)))
def kSetM (i : Nat) (Q : Flow → Env → Prop) : M → Env → Prop := fun d e => i < e.length ∧ Q .nxt (e.set i (some d))
@[simp] theorem wp_stoM {i : Nat} {m : M} : wp (stoM i m) e QS E = (i < e.length ∧ QS .nxt (e.set i (some m))) := by
  unfold wp stoM
  by_cases h : i < e.length <;> simp [h]
@[simp] theorem wp_setS {i : Nat} : wp (setS i f) e QS E = wp f e (kSet i QS) E := by unfold setS; rw [wp_bnd]; congr; funext x e1; exact wp_stoM
@[simp] theorem wp_setM {i : Nat} {fm : EM M} : wp (setM i fm) e QS E = wp fm e (kSetM i QS) E := by unfold setM; rw [wp_bnd]; congr; funext x e1; exact wp_stoM
@[simp] theorem kSet_at {i : Nat} {d : D} {e1 : Env} : kSet i QS d e1 = (i < e1.length ∧ QS .nxt (e1.set i (some (.im d)))) := rfl
@[simp] theorem kSetM_at {i : Nat} {d : M} {e1 : Env} : kSetM i QS d e1 = (i < e1.length ∧ QS .nxt (e1.set i (some d))) := rfl
@[simp] theorem wp_gN {i : Nat} {d : D} : wp (gN i d) e QU E = (i < e.length ∧ QU () (e.set i (some (.im d)))) := by
  unfold wp gN
  by_cases h : i < e.length <;> simp [h]
def kGs (u : List D → EM Unit) (ds : List D) (Q : Unit → Env → Prop) (E : EX) : Unit → Env → Prop := fun _ e => wp (u ds) e Q E
@[simp] theorem wp_gsNil : wp (gsNil []) e QU E = QU () e := rfl
@[simp] theorem wp_gsCons {t : D → EM Unit} {u : List D → EM Unit} {d : D} {ds : List D} : wp (gsCons t u (d :: ds)) e QU E = wp (t d) e (kGs u ds QU E) E := by
  unfold gsCons wp
  simp only [bnd]
  cases t d e <;> rfl
@[simp] theorem kGs_at {u : List D → EM Unit} {ds : List D} {x : Unit} {e1 : Env} : kGs u ds QU E x e1 = wp (u ds) e1 QU E := rfl
@[simp] theorem wp_gT {n : Nat} {u : List D → EM Unit} {ds : List D} : wp (gT n u (.tuple ds)) e QU E = (ds.length = n ∧ wp (u ds) e QU E) := by
  unfold wp gT
  by_cases h : ds.length = n <;> simp [h]
def kAsg (t : D → EM Unit) (Q : Flow → Env → Prop) (E : EX) : D → Env → Prop := fun d e => wp (t d) e (fun _ e1 => Q .nxt e1) E
def kNx (Q : Flow → Env → Prop) : Unit → Env → Prop := fun _ e => Q .nxt e
@[simp] theorem wp_asgS {t : D → EM Unit} : wp (asgS f t) e QS E = wp f e (kAsg t QS E) E := by unfold asgS; rw [wp_bnd]; congr; funext x e1; unfold goS; rw [wp_bnd]; rfl
@[simp] theorem kAsg_at {t : D → EM Unit} {d : D} {e1 : Env} : kAsg t QS E d e1 = wp (t d) e1 (kNx QS) E := rfl
@[simp] theorem kNx_at {x : Unit} {e1 : Env} : kNx QS x e1 = QS .nxt e1 := rfl
def kPar (u : List D → EM Unit) (Q : Flow → Env → Prop) (E : EX) : List D → Env → Prop := fun ds e => wp (u ds) e (kNx Q) E
@[simp] theorem wp_parS {u : List D → EM Unit} : wp (parS fs u) e QS E = wp fs e (kPar u QS E) E := by unfold parS; rw [wp_bnd]; congr; funext x e1; unfold goS; rw [wp_bnd]; rfl
@[simp] theorem kPar_at {u : List D → EM Unit} {ds : List D} {e1 : Env} : kPar u QS E ds e1 = wp (u ds) e1 (kNx QS) E := rfl
def kAug1 (i : Nat) (g : D → D → Option D) (f : EM D) (Q : Flow → Env → Prop) (E : EX) : D → Env → Prop := fun x e1 => wp f e1 (fun y e2 => wpo (g x y) (kSet i Q) e2) E
def kAug2 (i : Nat) (g : D → D → Option D) (x : D) (Q : Flow → Env → Prop) : D → Env → Prop := fun y e2 => wpo (g x y) (kSet i Q) e2
@[simp] theorem wp_augS {i : Nat} : wp (augS i g f) e QS E = wp (var i) e (kAug1 i g f QS E) E := by
  unfold augS; rw [wp_bnd]; congr; funext x e1; rw [wp_bnd]; unfold kAug1; congr; funext y e2; rw [wp_bnd, wp_lif]; congr; funext z e3; exact wp_stoM
@[simp] theorem kAug1_at {i : Nat} {x : D} {e1 : Env} : kAug1 i g f QS E x e1 = wp f e1 (kAug2 i g x QS) E := rfl
@[simp] theorem kAug2_at {i : Nat} {x y : D} {e1 : Env} : kAug2 i g x QS y e1 = wpo (g x y) (kSet i QS) e1 := rfl
def kApp (i : Nat) (Q : Flow → Env → Prop) : D → Env → Prop := fun d e => wp (appM i d) e Q (fun _ _ _ => False)
def kApp2 (i : Nat) (d : D) (Q : Flow → Env → Prop) (e : Env) : Option (Option M) → Prop
  | some (some (.ls ms)) => ms.length + 1 ≤ 1000000 ∧ Q .nxt (e.set i (some (.ls (ms ++ [.im d]))))
  | _ => False
@[simp] theorem wp_appS {i : Nat} : wp (appS i f) e QS E = (isLs i e = true ∧ wp f e (kApp i QS) E) := by
  unfold wp appS
  by_cases h : isLs i e = true
  · simp only [h, if_true, true_and, bnd]
    cases f e with
    | ok d e1 =>
      simp only [kApp, wp]
      cases q : appM i d e1 with
      | ok => rfl
      | ex =>
        exfalso
        unfold appM at q
        split at q
        · split at q <;> cases q
        · cases q
      | no => rfl
    | ex => rfl
    | no => rfl
  · simp [h]
@[simp] theorem kApp_at {i : Nat} {d : D} {e1 : Env} : kApp i QS d e1 = kApp2 i d QS e1 e1[i]? := by
  unfold kApp wp appM
  cases e1[i]? with
  | none => rfl
  | some o => cases o with
    | none => rfl
    | some m => cases m <;> try rfl
                rename_i ms
                simp only [kApp2]
                by_cases h : ms.length + 1 ≤ 1000000
                · simp [few, h]
                · simp [few, h]
@[simp] theorem kApp2_at {i : Nat} {d : D} {ms : List M} : kApp2 i d QS e (some (some (.ls ms))) = (ms.length + 1 ≤ 1000000 ∧ QS .nxt (e.set i (some (.ls (ms ++ [.im d]))))) := rfl
def kSto1 (i : Nat) (fk : EM D) (Q : Flow → Env → Prop) (E : EX) : D → Env → Prop := fun d e => has i e = true ∧ wp fk e (fun k e1 => wp (storeM i k d) e1 Q E) E
def kSto2 (i : Nat) (d : D) (Q : Flow → Env → Prop) (E : EX) : D → Env → Prop := fun k e => wp (storeM i k d) e Q E
@[simp] theorem wp_storeS {i : Nat} {fk fv : EM D} : wp (storeS i fk fv) e QS E = wp fv e (kSto1 i fk QS E) E := by
  unfold storeS; rw [wp_bnd]; congr; funext x e1; rw [wp_chk, wp_bnd]; rfl
@[simp] theorem kSto1_at {i : Nat} {fk : EM D} {d : D} {e1 : Env} : kSto1 i fk QS E d e1 = (has i e1 = true ∧ wp fk e1 (kSto2 i d QS E) E) := rfl
@[simp] theorem kSto2_at {i : Nat} {d k : D} {e1 : Env} : kSto2 i d QS E k e1 = wp (storeM i k d) e1 QS E := rfl
/-! ### loops -/
def kFor (t : D → EM Unit) (g : EM Flow) (Q : Flow → Env → Prop) (E : EX) : List D → Env → Prop := fun ds e => wp (loopS t g ds) e Q E
@[simp] theorem wp_forS {fi : EM (List D)} {t : D → EM Unit} {g : EM Flow} : wp (forS fi t g) e QS E = wp fi e (kFor t g QS E) E := by unfold forS; rw [wp_bnd]; rfl
/-- behind a turn -/
def kTurn (N : Env → Prop) (Q : Flow → Env → Prop) : Flow → Env → Prop
  | .nxt, e => N e
  | .cnt, e => N e
  | .brk, e => Q .nxt e
  | .ret m, e => Q (.ret m) e
@[simp] theorem kTurn_nxt {N : Env → Prop} : kTurn N QS .nxt e = N e := rfl
@[simp] theorem kTurn_cnt {N : Env → Prop} : kTurn N QS .cnt e = N e := rfl
@[simp] theorem kTurn_brk {N : Env → Prop} : kTurn N QS .brk e = QS .nxt e := rfl
@[simp] theorem kTurn_ret {N : Env → Prop} {m : M} : kTurn N QS (.ret m) e = QS (.ret m) e := rfl
def kBody (g : EM Flow) (N : Env → Prop) (Q : Flow → Env → Prop) (E : EX) : Unit → Env → Prop := fun _ e => wp g e (kTurn N Q) E
@[simp] theorem kBody_at {g : EM Flow} {N : Env → Prop} {x : Unit} {e1 : Env} : kBody g N QS E x e1 = wp g e1 (kTurn N QS) E := rfl
theorem for_cons {t : D → EM Unit} {g : EM Flow} {d : D} {ds : List D} (h : wp (t d) e (kBody g (fun e1 => kFor t g QS E ds e1) QS E) (fun _ _ _ => False)) : kFor t g QS E (d :: ds) e := by
  unfold kFor wp
  rw [loopS]
  unfold wp at h
  cases q : t d e with
  | no => rw [q] at h; exact h.elim
  | ex => rw [q] at h; exact h.elim
  | ok u e1 =>
    rw [q] at h
    simp only [kBody, wp] at h
    simp only [q]
    cases z : g e1 with
    | no => rw [z] at h; exact h.elim
    | ex => rw [z] at h; exact h
    | ok fl e2 =>
      rw [z] at h
      cases fl <;> exact h
/-- a for by what holds behind the turns that are done -/
theorem for_inv {α : Type} {em : α → D} {as : List α} {t : D → EM Unit} {g : EM Flow} (I : List α → Env → Prop) (h0 : I [] e) (step : ∀ done a rest e, as = done ++ a :: rest → I done e → wp (t (em a)) e (kBody g (I (done ++ [a])) QS E) (fun _ _ _ => False)) (hq : ∀ e', I as e' → QS .nxt e') : kFor t g QS E (as.map em) e := by
  have key : ∀ (rest done : List α) (e : Env), as = done ++ rest → I done e → kFor t g QS E (rest.map em) e := by
    intro rest
    induction rest with
    | nil =>
      intro done e h i
      rw [List.append_nil] at h
      subst h
      exact hq e i
    | cons a rest ih =>
      intro done e h i
      rw [List.map_cons]
      refine for_cons (wp_mono (step done a rest e h i) fun u e1 hb => ?_)
      unfold kBody at hb ⊢
      refine wp_mono hb fun fl e2 hf => ?_
      cases fl
      · exact ih (done ++ [a]) e2 (by rw [h]; simp) hf
      · exact hf
      · exact ih (done ++ [a]) e2 (by rw [h]; simp) hf
      · exact hf
  exact key as [] e rfl h0
/-- a while by what holds at each test, at most so many turns -/
theorem while_inv {c : EM Bool} {g : EM Flow} (I : Env → Prop) (m : Env → Nat) {n : Nat} (h0 : I e) (hm : m e < n) (step : ∀ e, I e → wp c e (fun b e1 => if b then wp g e1 (kTurn (fun e2 => I e2 ∧ m e2 < m e) QS) E else QS .nxt e1) E) : wp (whileS n c g) e QS E := by
  induction n generalizing e with
  | zero => omega
  | succ n ih =>
    unfold whileS
    rw [wp_bnd]
    refine wp_mono (step e h0) fun b e1 hb => ?_
    cases b with
    | false => exact hb
    | true =>
      simp only [if_true] at hb ⊢
      unfold wp at hb ⊢
      cases q : g e1 with
      | no => rw [q] at hb; exact hb.elim
      | ex => rw [q] at hb; simp only [q]; exact hb
      | ok fl e2 =>
        rw [q] at hb
        simp only [q]
        cases fl
        · exact ih (e := e2) hb.1 (by have := hb.2; omega)
        · exact hb
        · exact ih (e := e2) hb.1 (by have := hb.2; omega)
        · exact hb
/-! ### comprehensions -/
def kComp (vs : List Nat) (t : D → EM Unit) (tt : EM Bool) (te : EM D) (Q : D → Env → Prop) (E : EX) : List D → Env → Prop := fun ds e => wp (compE vs (ret ds) t tt te) e Q E
@[simp] theorem wp_compE {vs : List Nat} {fi : EM (List D)} {t : D → EM Unit} {tt : EM Bool} {te : EM D} : wp (compE vs fi t tt te) e Q E = wp fi e (kComp vs t tt te Q E) E := by
  unfold kComp compE; rw [wp_bnd]; congr
def noX : EX := fun _ _ _ => False
def kElt (vs : List Nat) (w : Env) (te : EM D) (b : Bool) (y : D) : Bool → Env → Prop := fun x e2 => x = b ∧ if b then wp te e2 (fun z e3 => z = y ∧ vs.all (imAt e3) = true ∧ wipeE e3 vs = w) noX else (vs.all (imAt e2) = true ∧ wipeE e2 vs = w)
def kTgt (vs : List Nat) (w : Env) (tt : EM Bool) (te : EM D) (b : Bool) (y : D) : Unit → Env → Prop := fun _ e1 => wp tt e1 (kElt vs w te b y) noX
@[simp] theorem kTgt_at {vs : List Nat} {w : Env} {tt : EM Bool} {te : EM D} {b : Bool} {y : D} {x : Unit} {e1 : Env} : kTgt vs w tt te b y x e1 = wp tt e1 (kElt vs w te b y) noX := rfl
def kEnd (vs : List Nat) (w : Env) (y : D) : D → Env → Prop := fun z e3 => z = y ∧ vs.all (imAt e3) = true ∧ wipeE e3 vs = w
@[simp] theorem kEnd_at {vs : List Nat} {w : Env} {y z : D} {e3 : Env} : kEnd vs w y z e3 = (z = y ∧ vs.all (imAt e3) = true ∧ wipeE e3 vs = w) := rfl
@[simp] theorem kElt_at {vs : List Nat} {w : Env} {te : EM D} {b x : Bool} {y : D} {e1 : Env} : kElt vs w te b y x e1 = (x = b ∧ ((b = true → wp te e1 (kEnd vs w y) noX) ∧ (b = false → vs.all (imAt e1) = true ∧ wipeE e1 vs = w))) := by
  unfold kElt
  cases b
  · simp
  · simp only [if_true, true_implies, Bool.true_eq_false, false_implies, and_true]
    rfl
theorem compL_wp {α : Type} {em : α → D} {vs : List Nat} {t : D → EM Unit} {tt : EM Bool} {te : EM D} {w : Env} {b : α → Bool} {f : α → D} : ∀ {as : List α}, (∀ a ∈ as, wp (t (em a)) w (kTgt vs w tt te (b a) (f a)) noX) → compL vs t tt te (as.map em) w = .ok ((as.filter b).map f) w
  | [], _ => rfl
  | a :: as, h => by
    have ih := compL_wp (as := as) fun x hx => h x (List.mem_cons_of_mem _ hx)
    have ha := h a List.mem_cons_self
    rw [List.map_cons, compL]
    unfold wp at ha
    cases q : t (em a) w with
    | no => rw [q] at ha; exact ha.elim
    | ex => rw [q] at ha; exact ha.elim
    | ok u e1 =>
      rw [q] at ha
      simp only [kTgt, wp] at ha ⊢
      cases q2 : tt e1 with
      | no => rw [q2] at ha; exact ha.elim
      | ex => rw [q2] at ha; exact ha.elim
      | ok x e2 =>
        rw [q2] at ha
        simp only [kElt] at ha
        obtain ⟨rfl, ha⟩ := ha
        cases hb : b a with
        | false =>
          rw [hb] at ha
          have ha : vs.all (imAt e2) = true ∧ wipeE e2 vs = w := ha
          simp only [q, q2, hb, ha.1, if_true, ha.2, ih]
          rw [List.filter_cons_of_neg (by rw [hb]; decide)]
        | true =>
          rw [hb] at ha
          have ha : wp te e2 (fun z e3 => z = f a ∧ vs.all (imAt e3) = true ∧ wipeE e3 vs = w) noX := ha
          unfold wp at ha
          cases q3 : te e2 with
          | no => rw [q3] at ha; exact ha.elim
          | ex => rw [q3] at ha; exact ha.elim
          | ok y e3 =>
            rw [q3] at ha
            obtain ⟨h1, h2, h3⟩ := ha
            simp only [q, q2, q3, hb, h2, if_true, h3, ih]
            rw [List.filter_cons_of_pos hb, List.map_cons, h1]
/-- a comprehension: what each thing gives -/
theorem comp_all {α : Type} {em : α → D} {as : List α} {vs : List Nat} {t : D → EM Unit} {tt : EM Bool} {te : EM D} (b : α → Bool) (f : α → D) (hw : vs.all (imAt e) = true) (hb : backE (wipeE e vs) e vs = e) (hw2 : vs.all (imAt (wipeE e vs)) = true) (hl : as.length ≤ 1000000)
    (h : ∀ a ∈ as, wp (t (em a)) (wipeE e vs) (kTgt vs (wipeE e vs) tt te (b a) (f a)) noX) (hq : Q (.list ((as.filter b).map f)) e) : kComp vs t tt te Q E (as.map em) e := by
  unfold kComp wp compE
  simp only [bnd, ret, hw, if_true, compL_wp h, hw2, Bool.and_true]
  rw [if_pos (few_le' (by rw [List.length_map]; exact Nat.le_trans (List.length_filter_le _ _) hl)), hb]
  exact hq
/-- without an if -/
theorem comp_map {α : Type} {em : α → D} {as : List α} {vs : List Nat} {t : D → EM Unit} {te : EM D} (f : α → D) (hw : vs.all (imAt e) = true) (hb : backE (wipeE e vs) e vs = e) (hw2 : vs.all (imAt (wipeE e vs)) = true) (hl : as.length ≤ 1000000)
    (h : ∀ a ∈ as, wp (t (em a)) (wipeE e vs) (kTgt vs (wipeE e vs) (ret true) te true (f a)) noX) (hq : Q (.list (as.map f)) e) : kComp vs t (ret true) te Q E (as.map em) e := by
  refine comp_all (fun _ => true) f hw hb hw2 hl h ?_
  rw [List.filter_eq_self.mpr (fun _ _ => rfl)]
  exact hq
/-! ### more of owned things -/
def kPdm1 (i j : Nat) (fm : EM M) (Q : Flow → Env → Prop) (E : EX) : D → Env → Prop := fun d e1 => wp fm e1 (fun m e2 => wp (seqS (stoM j m) (stoM i (.im d))) e2 Q E) E
def kPdm2 (i j : Nat) (d : D) (Q : Flow → Env → Prop) : M → Env → Prop := fun m e2 => j < e2.length ∧ i < e2.length ∧ Q .nxt ((e2.set j (some m)).set i (some (.im d)))
@[simp] theorem wp_parDM {i j : Nat} {fm : EM M} : wp (parDM i j fa fm) e QS E = wp fa e (kPdm1 i j fm QS E) E := by
  unfold parDM; rw [wp_bnd]; congr; funext d e1; rw [wp_bnd]; rfl
@[simp] theorem kPdm1_at {i j : Nat} {fm : EM M} {d : D} {e1 : Env} : kPdm1 i j fm QS E d e1 = wp fm e1 (kPdm2 i j d QS) E := by
  unfold kPdm1; congr; funext m e2; rw [wp_seqS, wp_stoM, kSeq_nxt, wp_stoM, List.length_set]; rfl
@[simp] theorem kPdm2_at {i j : Nat} {d : D} {m : M} {e2 : Env} : kPdm2 i j d QS m e2 = (j < e2.length ∧ i < e2.length ∧ QS .nxt ((e2.set j (some m)).set i (some (.im d)))) := rfl
def kExt (i : Nat) (Q : Flow → Env → Prop) : M → Env → Prop := fun m e1 => wp (extM i m) e1 Q (fun _ _ _ => False)
def kExt2 (i : Nat) (ds : List D) (Q : Flow → Env → Prop) (e : Env) : Option (Option M) → Prop
  | some (some (.ls ms)) => ms.length + ds.length ≤ 1000000 ∧ Q .nxt (e.set i (some (.ls (ms ++ ds.map .im))))
  | _ => False
theorem extM_ex {i : Nat} {m : M} {e1 e' : Env} {C : Addr} {fs : List (Str × D)} : extM i m e1 ≠ .ex C fs e' := by
  unfold extM
  split
  · split
    · split
      · split <;> intro h <;> cases h
      · intro h; cases h
    · intro h; cases h
  · intro h; cases h
@[simp] theorem wp_extS {i : Nat} {fm : EM M} : wp (extS i fm) e QS E = (isLs i e = true ∧ wp fm e (kExt i QS) E) := by
  unfold wp extS
  by_cases h : isLs i e = true
  · simp only [h, if_true, true_and, bnd]
    cases fm e with
    | ok d e1 =>
      simp only [kExt, wp]
      cases q : extM i d e1 with
      | ok => rfl
      | ex => exact absurd q extM_ex
      | no => rfl
    | ex => rfl
    | no => rfl
  · simp [h]
@[simp] theorem kExt_at {i : Nat} {ds : List D} {e1 : Env} : kExt i QS (.ls (ds.map .im)) e1 = kExt2 i ds QS e1 e1[i]? := by
  unfold kExt wp extM
  simp only [imAll_im]
  cases e1[i]? with
  | none => rfl
  | some o => cases o with
    | none => rfl
    | some m => cases m <;> try rfl
                rename_i ms
                simp only [kExt2]
                by_cases h : ms.length + ds.length ≤ 1000000
                · simp [few, h]
                · simp [few, h]
@[simp] theorem kExt2_at {i : Nat} {ds : List D} {ms : List M} : kExt2 i ds QS e (some (some (.ls ms))) = (ms.length + ds.length ≤ 1000000 ∧ QS .nxt (e.set i (some (.ls (ms ++ ds.map .im))))) := rfl
def kCompM (vs : List Nat) (t : D → EM Unit) (tt : EM Bool) (te : EM D) (Q : M → Env → Prop) (E : EX) : List D → Env → Prop := fun ds e => wp (compM vs (ret ds) t tt te) e Q E
@[simp] theorem wp_compM {vs : List Nat} {fi : EM (List D)} {t : D → EM Unit} {tt : EM Bool} {te : EM D} : wp (compM vs fi t tt te) e QM E = wp fi e (kCompM vs t tt te QM E) E := by
  unfold kCompM compM; rw [wp_bnd]; congr
theorem compM_all {α : Type} {em : α → D} {as : List α} {vs : List Nat} {t : D → EM Unit} {tt : EM Bool} {te : EM D} (b : α → Bool) (f : α → D) (hw : vs.all (imAt e) = true) (hb : backE (wipeE e vs) e vs = e) (hw2 : vs.all (imAt (wipeE e vs)) = true) (hl : as.length ≤ 1000000)
    (h : ∀ a ∈ as, wp (t (em a)) (wipeE e vs) (kTgt vs (wipeE e vs) tt te (b a) (f a)) noX) (hq : QM (.ls (((as.filter b).map f).map .im)) e) : kCompM vs t tt te QM E (as.map em) e := by
  unfold kCompM wp compM
  simp only [bnd, ret, hw, if_true, compL_wp h, hw2, Bool.and_true]
  rw [if_pos (few_le' (by rw [List.length_map]; exact Nat.le_trans (List.length_filter_le _ _) hl)), hb]
  exact hq
theorem compM_map {α : Type} {em : α → D} {as : List α} {vs : List Nat} {t : D → EM Unit} {te : EM D} (f : α → D) (hw : vs.all (imAt e) = true) (hb : backE (wipeE e vs) e vs = e) (hw2 : vs.all (imAt (wipeE e vs)) = true) (hl : as.length ≤ 1000000)
    (h : ∀ a ∈ as, wp (t (em a)) (wipeE e vs) (kTgt vs (wipeE e vs) (ret true) te true (f a)) noX) (hq : QM (.ls ((as.map f).map .im)) e) : kCompM vs t (ret true) te QM E (as.map em) e := by
  refine compM_all (fun _ => true) f hw hb hw2 hl h ?_
  rw [List.filter_eq_self.mpr (fun _ _ => rfl)]
  exact hq
/-! ### arguments, what comes back -/
@[simp] theorem slotsOf_nil : slotsOf [] = [] := rfl
@[simp] theorem slotsOf_d {d : D} {r : List AR} : slotsOf (.d d :: r) = slotsOf r := rfl
@[simp] theorem slotsOf_b {s : Nat} {r : List AR} : slotsOf (.b s :: r) = s :: slotsOf r := rfl
def kArg (o : Option (List M)) : Option (Option M) → Option (List M)
  | some (some m) => o.map (m :: ·)
  | _ => none
@[simp] theorem kArg_at {o : Option (List M)} {m : M} : kArg o (some (some m)) = o.map (m :: ·) := rfl
@[simp] theorem argM_nil : argM e [] = some [] := rfl
@[simp] theorem argM_d {d : D} {r : List AR} : argM e (.d d :: r) = (argM e r).map (.im d :: ·) := rfl
@[simp] theorem argM_b {s : Nat} {r : List AR} : argM e (.b s :: r) = kArg (argM e r) e[s]? := by
  rw [argM]
  cases e[s]? with
  | none => rfl
  | some o => cases o <;> rfl
@[simp] theorem putB_nil {ms : List M} : putB e [] ms = e := rfl
@[simp] theorem putB_d {d : D} {r : List AR} {m : M} {ms : List M} : putB e (.d d :: r) (m :: ms) = putB e r ms := rfl
@[simp] theorem putB_b {s : Nat} {r : List AR} {m : M} {ms : List M} : putB e (.b s :: r) (m :: ms) = (putB e r ms).set s (some m) := rfl
@[simp] theorem isIm_im {d : D} : isIm (.im d) = true := rfl
def kBb (o : Option (List M)) : Option (Option M) → Option (List M)
  | some (some m) => o.map (m :: ·)
  | _ => none
@[simp] theorem kBb_at {o : Option (List M)} {m : M} : kBb o (some (some m)) = o.map (m :: ·) := rfl
@[simp] theorem backs_nil {B : List Nat} {i : Nat} : backs B e i [] = some [] := rfl
@[simp] theorem backs_no {i : Nat} {d : D} {ms : List M} : backs [] e i (.im d :: ms) = (backs [] e (i + 1) ms).map (.im d :: ·) := rfl
theorem backs_cons {B : List Nat} {i : Nat} {m : M} {ms : List M} : backs B e i (m :: ms) = if B.contains i then kBb (backs B e (i + 1) ms) e[i]? else if isIm m then (backs B e (i + 1) ms).map (m :: ·) else (backs B e (i + 1) ms).map (.gone :: ·) := by
  rw [backs]
  by_cases h : B.contains i = true
  · simp only [h, if_true]
    cases e[i]? with
    | none => rfl
    | some o => cases o <;> rfl
  · rw [if_neg h, if_neg h]
/-! ### defs -/
def kBk (r : M) (K : M → List M → Prop) : Option (List M) → Prop
  | some ms => K r ms
  | none => False
@[simp] theorem kBk_at {r : M} {K : M → List M → Prop} {ms : List M} : kBk r K (some ms) = K r ms := rfl
def kFin (B : List Nat) (ms : List M) (K : M → List M → Prop) : Flow → Env → Prop
  | .ret r, e => kBk r K (backs B e 0 ms)
  | .nxt, e => kBk (.im .none) K (backs B e 0 ms)
  | _, _ => False
@[simp] theorem kFin_ret {B : List Nat} {ms : List M} {K : M → List M → Prop} {r : M} : kFin B ms K (.ret r) e = kBk r K (backs B e 0 ms) := rfl
@[simp] theorem kFin_nxt {B : List Nat} {ms : List M} {K : M → List M → Prop} : kFin B ms K .nxt e = kBk (.im .none) K (backs B e 0 ms) := rfl
theorem wpR_def {np nN : Nat} {B : List Nat} {g : EM Flow} {ms : List M} {K : M → List M → Prop} (hl : ms.length = np) (h : wp g (args0 nN ms) (kFin B ms K) noX) : wpR (defF np nN B g ms) K := by
  unfold defF
  rw [if_pos hl]
  unfold wp at h
  cases q : g (args0 nN ms) with
  | no => rw [q] at h; exact h.elim
  | ex => rw [q] at h; exact h.elim
  | ok fl e' =>
    rw [q] at h
    cases fl with
    | nxt =>
      simp only [kFin, endF] at h ⊢
      cases z : backs B e' 0 ms with
      | none => rw [z] at h; exact h.elim
      | some ms' => rw [z] at h; unfold wpR; exact h
    | brk => exact h.elim
    | cnt => exact h.elim
    | ret r =>
      simp only [kFin, endF] at h ⊢
      cases z : backs B e' 0 ms with
      | none => rw [z] at h; exact h.elim
      | some ms' => rw [z] at h; unfold wpR; exact h
end
end FD

/-! FD: the forward machine for objects. -/
namespace FD
open PySem L2
section
variable {α : Type} {QX : α → Env → Prop} {Q : D → Env → Prop} {QB : Bool → Env → Prop} {QL : List D → Env → Prop} {QM : M → Env → Prop} {QMs : List M → Env → Prop} {QS : Flow → Env → Prop} {E : EX} {e : Env} {i : Nat} {π : Way}
variable {f fa fb : EM D} {fs : EM (List D)} {fm : EM M} {g : Env → Option D} {gs : Env → Option (List D)}
/-! ### places -/
def kPg (π : Way) : Option (Option M) → Option M
  | some (some m) => getP π m
  | _ => none
@[simp] theorem pgM_at : pgM i π e = kPg π e[i]? := by
  unfold pgM kPg
  cases e[i]? with
  | none => rfl
  | some o => cases o <;> rfl
@[simp] theorem kPg_at {m : M} : kPg π (some (some m)) = getP π m := rfl
@[simp] theorem getP_nil {m : M} : getP [] m = some m := rfl
@[simp] theorem setP_nil {m n : M} : setP [] m n = n := rfl
def kPs (i : Nat) (π : Way) (n : M) (e : Env) : Option (Option M) → Env
  | some (some m) => e.set i (some (setP π m n))
  | _ => e
@[simp] theorem psM_at {n : M} : psM i π n e = kPs i π n e e[i]? := by
  unfold psM kPs
  cases e[i]? with
  | none => rfl
  | some o => cases o <;> rfl
@[simp] theorem kPs_at {m n : M} : kPs i π n e (some (some m)) = e.set i (some (setP π m n)) := rfl
/-! ### quiet -/
def kIm : Option M → Option D
  | some (.im d) => some d
  | _ => none
@[simp] theorem qP_at : qP i π e = kIm (pgM i π e) := by
  unfold qP kIm
  cases pgM i π e with
  | none => rfl
  | some m => cases m <;> rfl
@[simp] theorem kIm_at {d : D} : kIm (some (.im d)) = some d := rfl
@[simp] theorem qN_at : qN e = some [] := rfl
@[simp] theorem qC_at {ga : Env → Option D} : qC ga gs e = (ga e).bind fun x => (gs e).map (x :: ·) := rfl
@[simp] theorem qB_at {k : D → D → Option D} {ga gb : Env → Option D} : qB k ga gb e = (ga e).bind fun x => (gb e).bind fun y => k x y := rfl
@[simp] theorem qR_at {k : List D → Option D} : qR k gs e = (gs e).bind k := rfl
@[simp] theorem tupQ_at {ds : List D} : tupQ ds = if ds.length ≤ 1000000 then some (.tuple ds) else none := by simp [tupQ]
@[simp] theorem wp_qE {ga : Env → Option α} : wp (qE ga) e QX E = wpo (ga e) QX e := by
  unfold wp qE
  cases ga e <;> rfl
/-! ### reads -/
def kVarP (i : Nat) (π : Way) (Q : D → Env → Prop) (e : Env) : Option M → Prop
  | some (.im d) => Q d e
  | some m => wpo m.toD (fun d e => Q d (psM i π (.im d) e)) e
  | none => False
@[simp] theorem wp_varP : wp (varP i π) e Q E = kVarP i π Q e (pgM i π e) := by
  unfold wp varP
  cases h : pgM i π e with
  | none => rfl
  | some m =>
    cases m with
    | im d => rfl
    | ls ms => simp only [kVarP]; cases M.toD (.ls ms) <;> rfl
    | dk ms => simp only [kVarP]; cases M.toD (.dk ms) <;> rfl
    | dt ms => simp only [kVarP]; cases M.toD (.dt ms) <;> rfl
    | ob C ms => simp only [kVarP]; cases M.toD (.ob C ms) <;> rfl
    | gone => rfl
@[simp] theorem kVarP_im {d : D} : kVarP i π Q e (some (.im d)) = Q d e := rfl
def kVarPd (i : Nat) (π : Way) (Q : D → Env → Prop) (e : Env) : Option M → Prop
  | some (.im d) => Q d e
  | some m => wpo m.deep (fun d e => Q d (psM i π (.im d) e)) e
  | none => False
@[simp] theorem wp_varPd : wp (varPd i π) e Q E = kVarPd i π Q e (pgM i π e) := by
  unfold wp varPd
  cases h : pgM i π e with
  | none => rfl
  | some m =>
    cases m with
    | im d => rfl
    | ls ms => simp only [kVarPd]; cases M.deep (.ls ms) <;> rfl
    | dk ms => simp only [kVarPd]; cases M.deep (.dk ms) <;> rfl
    | dt ms => simp only [kVarPd]; cases M.deep (.dt ms) <;> rfl
    | ob C ms => simp only [kVarPd]; cases M.deep (.ob C ms) <;> rfl
    | gone => rfl
@[simp] theorem kVarPd_im {d : D} : kVarPd i π Q e (some (.im d)) = Q d e := rfl
@[simp] theorem kVarPd_dk {ms : List (Key × M)} : kVarPd i π Q e (some (.dk ms)) = wpo (M.dk ms).deep (fun d e => Q d (psM i π (.im d) e)) e := rfl
def kOpP {β : Type} (k : M → D → Option β) (Q : β → Env → Prop) (e : Env) : Option M → Option D → Prop
  | some m, some y => wpo (k m y) Q e
  | _, _ => False
@[simp] theorem wp_opP {k : M → D → Option α} : wp (opP i π g k) e QX E = kOpP k QX e (pgM i π e) (g e) := by
  unfold wp opP
  cases pgM i π e with
  | none => rfl
  | some m =>
    dsimp only
    cases g e with
    | none => rfl
    | some y =>
      simp only [kOpP]
      cases k m y <;> rfl
@[simp] theorem kOpP_at {k : M → D → Option α} {m : M} {y : D} : kOpP k QX e (some m) (some y) = wpo (k m y) QX e := rfl
def kOpR {β : Type} (i : Nat) (π : Way) (k : D → D → Option β) (Q : β → Env → Prop) : D → Env → Prop := fun y e => wpo ((pgM i π e).bind M.toD) (fun d e => wpo (k y d) Q e) e
@[simp] theorem wp_opR {k : D → D → Option α} : wp (opR i π fa k) e QX E = wp fa e (kOpR i π k QX) E := by
  unfold opR
  rw [wp_bnd]
  congr
  funext y e1
  unfold wp kOpR
  dsimp only
  cases (pgM i π e1).bind M.toD with
  | none => rfl
  | some d =>
    simp only [wpo]
    cases k y d <;> rfl
@[simp] theorem kOpR_at {k : D → D → Option α} {y : D} {e1 : Env} : kOpR i π k QX y e1 = wpo ((pgM i π e1).bind M.toD) (fun d e => wpo (k y d) QX e) e1 := rfl
/-! ### changes -/
def kChP (i : Nat) (π : Way) (k : M → D → Option M) (Q : Flow → Env → Prop) (e : Env) : Option M → Option D → Prop
  | some m, some y => wpo (k m y) (fun n e => Q .nxt (psM i π n e)) e
  | _, _ => False
@[simp] theorem wp_chP {k : M → D → Option M} : wp (chP i π g k) e QS E = kChP i π k QS e (pgM i π e) (g e) := by
  unfold wp chP
  cases pgM i π e with
  | none => rfl
  | some m =>
    dsimp only
    cases g e with
    | none => rfl
    | some y =>
      simp only [kChP]
      cases k m y <;> rfl
@[simp] theorem kChP_at {k : M → D → Option M} {m : M} {y : D} : kChP i π k QS e (some m) (some y) = wpo (k m y) (fun n e => QS .nxt (psM i π n e)) e := rfl
def kStoP (i : Nat) (π : Way) (g : Env → Option D) (Q : Flow → Env → Prop) (E : EX) : D → Env → Prop := fun d e => wp (chP i π g (stoK d)) e Q E
@[simp] theorem wp_stoP : wp (stoP i π g fa) e QS E = wp fa e (kStoP i π g QS E) E := by unfold stoP; rw [wp_bnd]; rfl
@[simp] theorem kStoP_at {d : D} {e1 : Env} : kStoP i π g QS E d e1 = wp (chP i π g (stoK d)) e1 QS E := rfl
def kFldS (i : Nat) (π : Way) (C f : Str) (Q : Flow → Env → Prop) : M → Env → Prop := fun n e => wpo ((pgM i π e).bind (fldK C f n)) (fun m e => Q .nxt (psM i π m e)) e
@[simp] theorem wp_fldS {C f : Str} : wp (fldS i π C f fm) e QS E = wp fm e (kFldS i π C f QS) E := by
  unfold fldS
  rw [wp_bnd]
  congr
  funext n e1
  unfold wp kFldS
  dsimp only
  cases (pgM i π e1).bind (fldK C f n) <;> rfl
@[simp] theorem kFldS_at {C f : Str} {n : M} {e1 : Env} : kFldS i π C f QS n e1 = wpo ((pgM i π e1).bind (fldK C f n)) (fun m e => QS .nxt (psM i π m e)) e1 := rfl
def kMv (i : Nat) (Q : M → Env → Prop) (e : Env) : Option (Option M) → Prop
  | some (some m) => Q m (e.set i (some .gone))
  | _ => False
@[simp] theorem wp_mvM : wp (mvM i) e QM E = kMv i QM e e[i]? := by
  unfold wp mvM
  cases e[i]? with
  | none => rfl
  | some o => cases o <;> rfl
@[simp] theorem kMv_at {m : M} : kMv i QM e (some (some m)) = QM m (e.set i (some .gone)) := rfl
/-! ### methods, objects made -/
def kMeth (i : Nat) (π : Way) (n : Nat) (Q : M → Env → Prop) (e : Env) : M → List M → Prop
  | r, m' :: ms => ms.length = n ∧ Q r (psM i π m' e)
  | _, [] => False
@[simp] theorem kMeth_at {n : Nat} {r m' : M} {ms : List M} : kMeth i π n QM e r (m' :: ms) = (ms.length = n ∧ QM r (psM i π m' e)) := rfl
def kMethP (C m : Str) (Fs : List M → FOut) (i : Nat) (π : Way) (Q : M → Env → Prop) (e : Env) : Option M → Option (List D) → Prop
  | some n, some ds => isOb C m n = true ∧ wpR (Fs (n :: ds.map .im)) (kMeth i π ds.length Q e)
  | _, _ => False
@[simp] theorem wp_methP {C m : Str} {Fs : List M → FOut} : wp (methP i π C m Fs gs) e QM E = kMethP C m Fs i π QM e (pgM i π e) (gs e) := by
  unfold wp methP
  cases pgM i π e with
  | none => rfl
  | some n =>
    dsimp only
    cases ho : isOb C m n with
    | false =>
      cases gs e <;> simp [kMethP, ho]
    | true =>
      rw [if_pos rfl]
      cases gs e with
      | none => rfl
      | some ds =>
        simp only [kMethP, ho, true_and]
        unfold lendF wpR
        cases Fs (n :: ds.map .im) with
        | no => rfl
        | ex => rfl
        | ok r ms =>
          dsimp only
          cases ms with
          | nil => rfl
          | cons m' ms =>
            dsimp only [kMeth]
            by_cases hl : ms.length = ds.length
            · rw [if_pos hl]; simp [hl]
            · rw [if_neg hl]; simp [hl]
@[simp] theorem kMethP_at {C m : Str} {Fs : List M → FOut} {n : M} {ds : List D} : kMethP C m Fs i π QM e (some n) (some ds) = (isOb C m n = true ∧ wpR (Fs (n :: ds.map .im)) (kMeth i π ds.length QM e)) := rfl
def kGive (Q : M → Env → Prop) (e : Env) : M → List M → Prop := fun r _ => Q r e
@[simp] theorem kGive_at {r : M} {ms : List M} : kGive QM e r ms = QM r e := rfl
@[simp] theorem wp_giveF {Fs : List M → FOut} {ms : List M} : wp (giveF Fs ms) e QM E = wpR (Fs ms) (kGive QM e) := by
  unfold wp giveF wpR
  cases Fs ms <;> rfl
def kMk (Q : M → Env → Prop) (e : Env) : M → List M → Prop
  | .im .none, m :: _ => Q m e
  | _, _ => False
@[simp] theorem kMk_at {m : M} {ms : List M} : kMk QM e (.im .none) (m :: ms) = QM m e := rfl
@[simp] theorem wp_mkF {Fs : List M → FOut} {C : Str} {ms : List M} : wp (mkF Fs C ms) e QM E = wpR (Fs (.ob C [] :: ms)) (kMk QM e) := by
  unfold wp mkF wpR
  cases Fs (.ob C [] :: ms) with
  | no => rfl
  | ex => rfl
  | ok r ms' =>
    dsimp only
    cases r with
    | im d => cases d <;> cases ms' <;> rfl
    | _ => rfl
def kVd (fv : EM (List M)) (Q : List M → Env → Prop) (E : EX) : D → Env → Prop := fun d e => wp fv e (fun ms e1 => Q (.im d :: ms) e1) E
def kVc (m : M) (Q : List M → Env → Prop) : List M → Env → Prop := fun ms e => Q (m :: ms) e
@[simp] theorem kVc_at {m : M} {ms : List M} : kVc m QMs ms e = QMs (m :: ms) e := rfl
@[simp] theorem wp_vN : wp vN e QMs E = QMs [] e := rfl
@[simp] theorem wp_vD {fv : EM (List M)} : wp (vD f fv) e QMs E = wp f e (kVd fv QMs E) E := by unfold vD; rw [wp_bnd]; congr; funext d e1; rw [wp_bnd]; rfl
@[simp] theorem kVd_at {fv : EM (List M)} {d : D} {e1 : Env} : kVd fv QMs E d e1 = wp fv e1 (kVc (.im d) QMs) E := rfl
def kVm (gs : Env → Option (List D)) (Q : List M → Env → Prop) : M → Env → Prop := fun m e => wpo (gs e) (fun ds e => Q (m :: ds.map .im) e) e
@[simp] theorem wp_vM : wp (vM fm gs) e QMs E = wp fm e (kVm gs QMs) E := by unfold vM; rw [wp_bnd]; congr; funext d e1; rw [wp_bnd, wp_qE]; rfl
@[simp] theorem kVm_at {m : M} {e1 : Env} : kVm gs QMs m e1 = wpo (gs e1) (fun ds e => QMs (m :: ds.map .im) e) e1 := rfl
def kMake (Fs : List M → FOut) (C : Str) (Q : M → Env → Prop) : List M → Env → Prop := fun ms e => wpR (Fs (.ob C [] :: ms)) (kMk Q e)
@[simp] theorem wp_makeV {Fs : List M → FOut} {C : Str} {fv : EM (List M)} : wp (makeV Fs C fv) e QM E = wp fv e (kMake Fs C QM) E := by
  unfold makeV; rw [wp_bnd]; congr; funext ms e1; rw [wp_mkF]; rfl
@[simp] theorem kMake_at {Fs : List M → FOut} {C : Str} {ms : List M} : kMake Fs C QM ms e = wpR (Fs (.ob C [] :: ms)) (kMk QM e) := rfl
def kFrzM (Q : D → Env → Prop) : M → Env → Prop := fun m e => wpo m.toD Q e
@[simp] theorem wp_frzM : wp (frzM fm) e Q E = wp fm e (kFrzM Q) E := by unfold frzM; rw [wp_bnd]; congr; funext m e1; rw [wp_lif]; rfl
@[simp] theorem kFrzM_at {m : M} : kFrzM Q m e = wpo m.toD Q e := rfl
def kExM (Q : Flow → Env → Prop) : M → Env → Prop := fun _ e => Q .nxt e
@[simp] theorem wp_exprM : wp (exprM fm) e QS E = wp fm e (kExM QS) E := by unfold exprM; rw [wp_bnd]; rfl
@[simp] theorem kExM_at {m : M} : kExM QS m e = QS .nxt e := rfl
def kMethT (C m : Str) (Fs : List M → FOut) (gs : Env → Option (List D)) (Q : M → Env → Prop) : M → Env → Prop := fun r e => isOb C m r = true ∧ wpo (gs e) (fun ds e => wpR (Fs (r :: ds.map .im)) (kGive Q e)) e
@[simp] theorem wp_methT {C m : Str} {Fs : List M → FOut} : wp (methT C m Fs fm gs) e QM E = wp fm e (kMethT C m Fs gs QM) E := by
  unfold methT
  rw [wp_bnd]
  congr
  funext r e1
  unfold kMethT
  cases ho : isOb C m r with
  | false => simp only [Bool.false_eq_true, if_false, false_and]; rfl
  | true =>
    simp only [if_true, true_and]
    rw [wp_bnd, wp_qE]
    congr
    funext ds e2
    rw [wp_giveF]
@[simp] theorem kMethT_at {C m : Str} {Fs : List M → FOut} {r : M} : kMethT C m Fs gs QM r e = (isOb C m r = true ∧ wpo (gs e) (fun ds e => wpR (Fs (r :: ds.map .im)) (kGive QM e)) e) := rfl
def fldOf (C f : Str) : M → Option D
  | .ob C' fs => if C' = C then (fs.lookup f).bind M.toD else none
  | _ => none
def kFldT (C f : Str) (Q : D → Env → Prop) : M → Env → Prop := fun m e => wpo (fldOf C f m) Q e
@[simp] theorem wp_fldT {C f : Str} : wp (fldT C f fm) e Q E = wp fm e (kFldT C f Q) E := by
  unfold fldT; rw [wp_bnd]; congr; funext m e1; rw [wp_lif]; unfold kFldT; cases m <;> rfl
@[simp] theorem kFldT_at {C f : Str} {m : M} : kFldT C f Q m e = wpo (fldOf C f m) Q e := rfl
/-! ### lists of owned things, displays -/
def kAppO (i : Nat) (Q : Flow → Env → Prop) : M → Env → Prop := fun m e => match e[i]? with
  | some (some (.ls ms)) => ms.length + 1 ≤ 1000000 ∧ Q .nxt (e.set i (some (.ls (ms ++ [m]))))
  | _ => False
@[simp] theorem wp_appOS : wp (appOS i fm) e QS E = (isLs i e = true ∧ wp fm e (kAppO i QS) E) := by
  unfold appOS wp
  dsimp only
  by_cases h : isLs i e = true
  rotate_left
  · rw [if_neg h]; simp [h]
  · rw [if_pos h]
    simp only [h, true_and]
    unfold bnd
    cases fm e with
    | no => rfl
    | ex => rfl
    | ok m e1 =>
      dsimp only
      unfold appO kAppO
      cases e1[i]? with
      | none => rfl
      | some o =>
        cases o with
        | none => rfl
        | some m1 =>
          cases m1 with
          | ls ms =>
            dsimp only
            by_cases hz : few (ms.length + 1) = true
            · rw [if_pos hz]; have := few_le hz; simp only [few_lit, decide_eq_true_eq] at hz; simp [hz]
            · rw [if_neg hz]; simp only [few_lit, decide_eq_true_eq] at hz; simp [hz]
          | _ => rfl
theorem kAppO_at {m : M} {ms : List M} (h : e[i]? = some (some (.ls ms))) : kAppO i QS m e = (ms.length + 1 ≤ 1000000 ∧ QS .nxt (e.set i (some (.ls (ms ++ [m]))))) := by unfold kAppO; rw [h]
def kDisp (ks : List Str) (Q : M → Env → Prop) : List D → Env → Prop := fun ds e => ds.length = ks.length ∧ ks.Nodup ∧ Q (.dk ((ks.map Sum.inr).zip (ds.map .im))) e
@[simp] theorem wp_dispM {ks : List Str} : wp (dispM ks fs) e QM E = wp fs e (kDisp ks QM) E := by
  unfold dispM
  rw [wp_bnd]
  congr
  funext ds e1
  unfold kDisp
  by_cases hc : ds.length = ks.length ∧ ks.Nodup
  · rw [if_pos hc]; simp [hc]
  · rw [if_neg hc, ← and_assoc]; simp only [wp]; simp [hc]
@[simp] theorem kDisp_at {ks : List Str} {ds : List D} : kDisp ks QM ds e = (ds.length = ks.length ∧ ks.Nodup ∧ QM (.dk ((ks.map Sum.inr).zip (ds.map .im))) e) := rfl
def kForM (i : Nat) (g : EM Flow) (Q : Flow → Env → Prop) (E : EX) : M → Env → Prop := fun m e => match m with
  | .ls ms => wp (loopM i g ms) e Q E
  | _ => False
@[simp] theorem wp_forM {g : EM Flow} : wp (forM i fm g) e QS E = wp fm e (kForM i g QS E) E := by
  unfold forM; rw [wp_bnd]; congr; funext m e1; cases m <;> rfl
theorem forM_inv {g : EM Flow} (I : List M → Env → Prop) : ∀ {ms : List M} {e : Env}, I ms e → (∀ m rest e, I (m :: rest) e → i < e.length ∧ wp g (e.set i (some m)) (kTurn (I rest) QS) E) → (∀ e, I [] e → QS .nxt e) → kForM i g QS E (.ls ms) e
  | [], e, h, _, fin => fin e h
  | m :: ms, e, h, step, fin => by
    have ih := fun e' (he : I ms e') => forM_inv (g := g) I (ms := ms) he step fin
    obtain ⟨h1, h2⟩ := step m ms e h
    show wp (loopM i g (m :: ms)) e QS E
    unfold wp at h2 ⊢
    simp only [loopM, if_pos h1]
    cases q : g (e.set i (some m)) with
    | no => rw [q] at h2; exact h2
    | ex C fs e' => rw [q] at h2; exact h2
    | ok fl e' =>
      rw [q] at h2
      cases fl with
      | nxt => exact ih e' h2
      | cnt => exact ih e' h2
      | brk => exact h2
      | ret m => exact h2
/-! ### a comprehension whose turns change things -/
theorem compL_inv {vs : List Nat} {t : D → EM Unit} {tt : EM Bool} {te : EM D} {em : α → D} (I : List α → List D → Env → Prop)
    (step : ∀ a rest ys e, I (a :: rest) ys e → wp (t (em a)) e (fun _ e1 => wp tt e1 (fun b e2 => if b then wp te e2 (fun y e3 => vs.all (imAt e3) = true ∧ I rest (ys ++ [y]) (wipeE e3 vs)) noX else vs.all (imAt e2) = true ∧ I rest ys (wipeE e2 vs)) noX) noX) :
    ∀ (as : List α) (ys : List D) (e : Env), I as ys e → ∃ zs e', compL vs t tt te (as.map em) e = .ok zs e' ∧ I [] (ys ++ zs) e'
  | [], ys, e, h => ⟨[], e, rfl, by rw [List.append_nil]; exact h⟩
  | a :: as, ys, e, h => by
    have ha := step a as ys e h
    rw [List.map_cons, compL]
    unfold wp at ha
    cases q : t (em a) e with
    | no => rw [q] at ha; exact ha.elim
    | ex => rw [q] at ha; exact ha.elim
    | ok u e1 =>
      rw [q] at ha
      dsimp only at ha ⊢
      cases q2 : tt e1 with
      | no => rw [q2] at ha; exact ha.elim
      | ex => rw [q2] at ha; exact ha.elim
      | ok b e2 =>
        rw [q2] at ha
        dsimp only at ha ⊢
        cases b with
        | false =>
          simp only [Bool.false_eq_true, if_false] at ha
          obtain ⟨zs, e', h1, h2⟩ := compL_inv I step as ys _ ha.2
          exact ⟨zs, e', by simp only [q, q2, ha.1, if_true, h1], h2⟩
        | true =>
          simp only [if_true] at ha
          cases q3 : te e2 with
          | no => rw [q3] at ha; exact ha.elim
          | ex => rw [q3] at ha; exact ha.elim
          | ok y e3 =>
            rw [q3] at ha
            dsimp only at ha ⊢
            obtain ⟨zs, e', h1, h2⟩ := compL_inv I step as (ys ++ [y]) _ ha.2
            exact ⟨y :: zs, e', by simp only [q, q2, q3, ha.1, if_true, h1], by rw [List.append_assoc] at h2; exact h2⟩
theorem comp_inv {vs : List Nat} {t : D → EM Unit} {tt : EM Bool} {te : EM D} {em : α → D} {as : List α} (I : List α → List D → Env → Prop) (hw : vs.all (imAt e) = true) (h0 : I as [] (wipeE e vs))
    (step : ∀ a rest ys e, I (a :: rest) ys e → wp (t (em a)) e (fun _ e1 => wp tt e1 (fun b e2 => if b then wp te e2 (fun y e3 => vs.all (imAt e3) = true ∧ I rest (ys ++ [y]) (wipeE e3 vs)) noX else vs.all (imAt e2) = true ∧ I rest ys (wipeE e2 vs)) noX) noX)
    (fin : ∀ ys e1, I [] ys e1 → ys.length ≤ 1000000 ∧ vs.all (imAt e1) = true ∧ Q (.list ys) (backE e1 e vs)) : kComp vs t tt te Q E (as.map em) e := by
  obtain ⟨zs, e', h1, h2⟩ := compL_inv I step as [] _ h0
  rw [List.nil_append] at h2
  obtain ⟨f1, f2, f3⟩ := fin zs e' h2
  unfold kComp wp compE
  simp only [bnd, ret, hw, if_true, h1, f2, Bool.and_true]
  rw [if_pos (few_le' f1)]
  exact f3
end
end FD

/-! A gap clears by its last strike just where it clears by its first one. -/
namespace GP
/-- the gap between lo and hi clears; G: a letter goes between two others -/
inductive Op (G : Nat → Nat → Nat → Bool) (x : Nat → Nat) : Nat → Nat → Prop
  | one (lo : Nat) : Op G x lo (lo + 1)
  | mid {lo k hi : Nat} : lo < k → k < hi → G (x lo) (x k) (x hi) = true → Op G x lo k → Op G x k hi → Op G x lo hi
variable {G : Nat → Nat → Nat → Bool} {x y : Nat → Nat}
theorem Op.lt {lo hi : Nat} (h : Op G x lo hi) : lo < hi := by
  cases h with
  | one => omega
  | mid => omega
theorem Op.map {lo hi : Nat} (h : Op G x lo hi) : ∀ (s : Nat → Nat), (∀ i, lo ≤ i → i < hi → s (i + 1) = s i + 1) → (∀ i, lo ≤ i → i ≤ hi → y (s i) = x i) → Op G y (s lo) (s hi) := by
  induction h with
  | one lo =>
    intro s h1 _
    rw [h1 lo (by omega) (by omega)]
    exact .one _
  | @mid lo k hi a b g o1 o2 i1 i2 =>
    intro s h1 h2
    have mono : ∀ d, lo + d ≤ hi → s (lo + d) = s lo + d := by
      intro d
      induction d with
      | zero => intro _; rfl
      | succ d ih => intro hd; rw [show lo + (d + 1) = (lo + d) + 1 by omega, h1 (lo + d) (by omega) (by omega), ih (by omega)]; omega
    have mk := mono (k - lo) (by omega)
    have mh := mono (hi - lo) (by omega)
    rw [show lo + (k - lo) = k by omega] at mk
    rw [show lo + (hi - lo) = hi by omega] at mh
    refine .mid (k := s k) (by omega) (by omega) ?_ (i1 s (fun i p q => h1 i p (by omega)) fun i p q => h2 i p (by omega)) (i2 s (fun i p q => h1 i (by omega) q) fun i p q => h2 i (by omega) q)
    rw [h2 lo (by omega) (by omega), h2 k (by omega) (by omega), h2 hi (by omega) (by omega)]
    exact g
/-- the letters but the one at k -/
def del (x : Nat → Nat) (k i : Nat) : Nat := if i < k then x i else x (i + 1)
theorem del_lt {k i : Nat} (h : i < k) : del x k i = x i := if_pos h
theorem del_ge {k i : Nat} (h : k ≤ i) : del x k i = x (i + 1) := if_neg (by omega)
theorem Op.left {lo hi k : Nat} (h : hi < k) : Op G (del x k) lo hi ↔ Op G x lo hi :=
  ⟨fun o => o.map id (fun _ _ _ => rfl) fun i _ q => (del_lt (show i < k by omega)).symm, fun o => o.map id (fun _ _ _ => rfl) fun i _ q => del_lt (show i < k by omega)⟩
theorem Op.right {lo hi k : Nat} (h : k ≤ lo) : Op G (del x k) lo hi ↔ Op G x (lo + 1) (hi + 1) :=
  ⟨fun o => o.map (· + 1) (fun _ _ _ => rfl) fun i p _ => (del_ge (by omega)).symm, fun o => by
    have := o.map (y := del x k) (· - 1) (fun i p _ => by show i + 1 - 1 = i - 1 + 1; omega) fun i p _ => by
      show del x k (i - 1) = x i
      rw [del_ge (by omega), show i - 1 + 1 = i by omega]
    exact this⟩
/-- by the last: some letter goes first -/
theorem Op.first {lo hi : Nat} (h : Op G x lo hi) : lo + 1 < hi → ∃ k, lo < k ∧ k < hi ∧ G (x (k - 1)) (x k) (x (k + 1)) = true ∧ Op G (del x k) lo (hi - 1) := by
  induction h with
  | one lo => intro h; omega
  | @mid lo k hi a b g o1 o2 i1 i2 =>
    intro _
    by_cases h1 : lo + 1 < k
    · obtain ⟨j, p1, p2, p3, p4⟩ := i1 h1
      refine ⟨j, p1, by omega, p3, .mid (k := k - 1) (by omega) (by omega) ?_ p4 ?_⟩
      · rw [del_lt p1, del_ge (by omega), del_ge (by omega), show k - 1 + 1 = k by omega, show hi - 1 + 1 = hi by omega]
        exact g
      · rw [Op.right (by omega), show k - 1 + 1 = k by omega, show hi - 1 + 1 = hi by omega]
        exact o2
    · by_cases h2 : k + 1 < hi
      · obtain ⟨j, p1, p2, p3, p4⟩ := i2 h2
        refine ⟨j, by omega, p2, p3, .mid (k := k) a (by omega) ?_ ?_ p4⟩
        · rw [del_lt (by omega), del_lt p1, del_ge (by omega), show hi - 1 + 1 = hi by omega]
          exact g
        · rw [Op.left p1]
          exact o1
      · have ek : k = lo + 1 := by omega
        have eh : hi = lo + 2 := by omega
        subst ek
        subst eh
        exact ⟨lo + 1, by omega, by omega, g, .one lo⟩
/-- by the first: so the gap clears -/
theorem Op.of_first {k lo hi' : Nat} (hg : G (x (k - 1)) (x k) (x (k + 1)) = true) (h : Op G (del x k) lo hi') : lo < k → k ≤ hi' → Op G x lo (hi' + 1) := by
  generalize hy : del x k = y at h
  induction h with
  | one lo =>
    intro a b
    have ek : k = lo + 1 := by omega
    subst ek
    exact .mid (k := lo + 1) (by omega) (by omega) hg (.one lo) (.one _)
  | @mid lo m hi a b g o1 o2 i1 i2 =>
    intro p q
    subst hy
    by_cases hm : k ≤ m
    · refine .mid (k := m + 1) (by omega) (by omega) ?_ (i1 p hm) ((Op.right hm).mp o2)
      rw [del_lt p, del_ge hm, del_ge (by omega)] at g
      exact g
    · refine .mid (k := m) a (by omega) ?_ ((Op.left (by omega)).mp o1) (i2 (by omega) q)
      rw [del_lt p, del_lt (by omega), del_ge (by omega)] at g
      exact g
/-- the gap clears just if some letter may go first and the rest clears then -/
theorem op_first {lo hi : Nat} (h : lo + 1 < hi) : Op G x lo hi ↔ ∃ k, lo < k ∧ k < hi ∧ G (x (k - 1)) (x k) (x (k + 1)) = true ∧ Op G (del x k) lo (hi - 1) :=
  ⟨fun o => o.first h, fun ⟨k, a, b, g, o⟩ => by
    have := Op.of_first g o a (by omega)
    rwa [show hi - 1 + 1 = hi by omega] at this⟩
/-- .. and just if some letter may go last -/
theorem op_last {lo hi : Nat} (h : lo + 1 < hi) : Op G x lo hi ↔ ∃ k, lo < k ∧ k < hi ∧ G (x lo) (x k) (x hi) = true ∧ Op G x lo k ∧ Op G x k hi :=
  ⟨fun o => by
    cases o with
    | one => omega
    | mid a b g o1 o2 => exact ⟨_, a, b, g, o1, o2⟩, fun ⟨k, a, b, g, o1, o2⟩ => .mid a b g o1 o2⟩
end GP

namespace FDL
open PySem L2 FD
def gis_whole : EM FD.Flow := (retS (andV (un (isiD "int") (var 0)) (andV (notV (un (isiD "bool") (var 0))) (chn leI leI (var 1) (var 0) (var 2)))))
def fis_whole : List M → FOut := defF 3 3 [] gis_whole
def gis_letter : EM FD.Flow := (retS (andV (un (isiD "str") (var 0)) (andV (bin eqA (cbE lenD (consA (var 0) nilA)) (ret (.int 1))) (bin inA (var 0) (ret (.str "abcdefghijklmnopqrstuvwxyz"))))))
def fis_letter : List M → FOut := defF 1 1 [] gis_letter
def gneed_word : EM FD.Flow := (seqS (ifS (orT (notT (tst (un (isiD "str") (var 0)))) (tst (bin gtI (cbE lenD (consA (var 0) nilA)) (ret (.int 120))))) (fun _ => .no) (ret .nxt)) (forS (itA enS (consA (var 0) nilA)) (gT 2 (gsCons (gN 1) (gsCons (gN 2) gsNil))) (ifS (tst (bin ninA (var 2) (ret (.str "abcdefghijklmnopqrstuvwxyz")))) (fun _ => .no) (ret .nxt))))
def fneed_word : List M → FOut := defF 1 3 [] gneed_word
def gis_side : EM FD.Flow := (retS (orV (callD fis_letter (arD (var 0) arN)) (andV (un (isiD "str") (var 0)) (bin inA (var 0) (tupE (consA (var 1) (consA (ret (.str "*")) nilA)))))))
def fis_side : List M → FOut := defF 2 2 [] gis_side
def grule_looks : EM FD.Flow := (seqS (setS 1 (lstE (consA (callD fis_side (arD (bin ixA (var 0) (ret (.int 0))) (arD (ret (.str "<")) arN))) (consA (callD fis_letter (arD (bin ixA (var 0) (ret (.int 1))) arN)) (consA (callD fis_side (arD (bin ixA (var 0) (ret (.int 2))) (arD (ret (.str ">")) arN))) nilA))))) (retS (bin addD (var 1) (lstE (consA (callD fis_whole (kwA 1 1 [.inl 0, .inr 0, .inl 1] [.int 0] (arD (bin ixA (var 0) (ret (.int 3))) arN) (arD (ret (.int 999)) arN))) nilA)))))
def frule_looks : List M → FOut := defF 1 2 [] grule_looks
def gneed_book : EM FD.Flow := (seqS (ifS (orT (notT (tst (un (isiD "tuple") (var 0)))) (tst (bin gtI (cbE lenD (consA (var 0) nilA)) (ret (.int 80))))) (fun _ => .no) (ret .nxt)) (forS (itA enA (consA (var 0) nilA)) (gT 2 (gsCons (gN 1) (gsCons (gN 2) gsNil))) (ifS (orT (notT (tst (un (isiD "tuple") (var 2)))) (orT (tst (bin neD (cbE lenD (consA (var 2) nilA)) (ret (.int 4)))) (tst (bin inA (ret (.bool false)) (callD frule_looks (arD (var 2) arN)))))) (fun _ => .no) (ret .nxt))))
def fneed_book : List M → FOut := defF 1 3 [] gneed_book
def gneed_gap : EM FD.Flow := (seqS (ifS (notT (tst (callD fis_whole (kwA 1 2 [.inl 0, .inl 1, .inl 2] [] (arD (var 1) arN) (arD (un negD (ret (.int 1))) (arD (bin subD (cbE lenD (consA (var 0) nilA)) (ret (.int 1))) arN)))))) (fun _ => .no) (ret .nxt)) (ifS (notT (tst (callD fis_whole (kwA 1 2 [.inl 0, .inl 1, .inl 2] [] (arD (var 2) arN) (arD (bin addD (var 1) (ret (.int 1))) (arD (cbE lenD (consA (var 0) nilA)) arN)))))) (fun _ => .no) (ret .nxt)))
def fneed_gap : List M → FOut := defF 3 3 [] gneed_gap
def gneed_all : EM FD.Flow := (seqS (exprS (callD fneed_word (arD (var 0) arN))) (seqS (exprS (callD fneed_book (arD (var 1) arN))) (exprS (callD fneed_gap (arD (var 0) (arD (var 2) (arD (var 3) arN)))))))
def fneed_all : List M → FOut := defF 4 4 [] gneed_all
def gFits___init__ : EM FD.Flow := (seqS (fldS 0 [] "Fits" "own_rules" dkM) (seqS (fldS 0 [] "Fits" "own_costs" dtM) (forS (itE itX (var 1)) (gT 4 (gsCons (gN 2) (gsCons (gN 3) (gsCons (gN 4) (gsCons (gN 5) gsNil))))) (sdApp 0 [("Fits", "own_rules")] (qP 3 []) (qR tupQ (qC (qP 2 []) (qC (qP 4 []) (qC (qP 5 []) qN))))))))
def fFits___init__ : List M → FOut := defF 2 6 [0] gFits___init__
def gGaps___init__ : EM FD.Flow := (seqS (fldS 0 [] "Gaps" "own_word" (imM (bin addD (bin addD (ret (.str "<")) (var 1)) (ret (.str ">"))))) (seqS (fldS 0 [] "Gaps" "own_fits" (mvM 2)) (fldS 0 [] "Gaps" "own_roots" dtM)))
def fGaps___init__ : List M → FOut := defF 3 3 [0] gGaps___init__
def gFits_cost : EM FD.Flow := (seqS (setS 4 (tupE (consA (var 1) (consA (var 2) (consA (var 3) nilA))))) (seqS (ifS (tst (opR 0 [("Fits", "own_costs")] (var 4) ninPD)) (seqS (setS 5 (get2E (varPd 0 [("Fits", "own_rules")]) (consA (var 2) (consA (lstE nilA) nilA)))) (seqS (setS 6 (compE [7] (itE itX (var 5)) (gN 7) (andT (tst (bin inA (bin ixA (var 7) (ret (.int 0))) (tupE (consA (var 1) (consA (ret (.str "*")) nilA))))) (tst (bin inA (bin ixA (var 7) (ret (.int 1))) (tupE (consA (var 3) (consA (ret (.str "*")) nilA)))))) (bin ixA (var 7) (ret (.int 2))))) (stoP 0 [("Fits", "own_costs")] (qP 4 []) (bnd (var 6) fun d => lif (minDf d))))) (ret .nxt)) (retS (opP 0 [("Fits", "own_costs")] (qP 4 []) itemMM))))
def fFits_cost : List M → FOut := defF 4 8 [0] gFits_cost
def gGaps_cost : EM FD.Flow := (seqS (setS 4 (varP 0 [("Gaps", "own_word")])) (retS (frzM (methP 0 [("Gaps", "own_fits")] "Fits" "cost" fFits_cost (qC (qB ixA (qP 4 []) (qB addD (qP 2 []) (fun _ => some (.int 1)))) (qC (qB ixA (qP 4 []) (qB addD (qP 1 []) (fun _ => some (.int 1)))) (qC (qB ixA (qP 4 []) (qB addD (qP 3 []) (fun _ => some (.int 1)))) qN)))))))
def fGaps_cost : List M → FOut := defF 4 5 [0] gGaps_cost
def gGaps_is_open : EM FD.Flow := (retS (orV (bin eqA (bin subD (var 2) (var 1)) (ret (.int 1))) (bin neD (opP 0 [("Gaps", "own_roots")] (qR tupQ (qC (qP 1 []) (qC (qP 2 []) qN))) itemMM) (lstE nilA))))
def fGaps_is_open : List M → FOut := defF 3 3 [0] gGaps_is_open
def gGaps_look : EM FD.Flow := (stoP 0 [("Gaps", "own_roots")] (qR tupQ (qC (qP 1 []) (qC (qP 2 []) qN))) (compE [3] (itA rng2 (consA (bin addD (var 1) (ret (.int 1))) (consA (var 2) nilA))) (gN 3) (andT (tst (bin isnD (frzM (methP 0 [] "Gaps" "cost" fGaps_cost (qC (qP 3 []) (qC (qP 1 []) (qC (qP 2 []) qN))))) (ret .none))) (andT (tst (frzM (methP 0 [] "Gaps" "is_open" fGaps_is_open (qC (qP 1 []) (qC (qP 3 []) qN))))) (tst (frzM (methP 0 [] "Gaps" "is_open" fGaps_is_open (qC (qP 3 []) (qC (qP 2 []) qN))))))) (var 3)))
def fGaps_look : List M → FOut := defF 3 4 [0] gGaps_look
def gGaps_look_within : EM FD.Flow := (forS (itA rng2 (consA (ret (.int 2)) (consA (bin addD (bin subD (var 2) (var 1)) (ret (.int 1))) nilA))) (gN 3) (forS (itA rng2 (consA (var 1) (consA (bin addD (bin subD (var 2) (var 3)) (ret (.int 1))) nilA))) (gN 4) (ifS (tst (opR 0 [("Gaps", "own_roots")] (tupE (consA (var 4) (consA (bin addD (var 4) (var 3)) nilA))) ninPD)) (exprM (methP 0 [] "Gaps" "look" fGaps_look (qC (qP 4 []) (qC (qB addD (qP 4 []) (qP 3 [])) qN)))) (ret .nxt))))
def fGaps_look_within : List M → FOut := defF 3 5 [0] gGaps_look_within
def ggaps_within : EM FD.Flow := (seqS (exprS (callD fneed_all (arD (var 0) (arD (var 1) (arD (var 2) (arD (var 3) arN)))))) (seqS (setM 4 (makeV fGaps___init__ "Gaps" (vD (var 0) (vM (makeV fFits___init__ "Fits" (vD (var 1) vN)) qN)))) (seqS (exprM (methP 4 [] "Gaps" "look_within" fGaps_look_within (qC (qP 2 []) (qC (qP 3 []) qN)))) (retM (mvM 4)))))
def fgaps_within : List M → FOut := defF 4 5 [] ggaps_within
def gclears : EM FD.Flow := (retS (frzM (methT "Gaps" "is_open" fGaps_is_open (callM fgaps_within (arD (var 0) (arD (var 1) (arD (var 2) (arD (var 3) arN))))) (qC (qP 2 []) (qC (qP 3 []) qN)))))
def fclears : List M → FOut := defF 4 4 [] gclears
def gmay_first : EM FD.Flow := (seqS (exprS (callD fneed_all (arD (var 0) (arD (var 1) (arD (var 2) (arD (var 3) arN)))))) (seqS (setM 4 (makeV fGaps___init__ "Gaps" (vD (var 0) (vM (makeV fFits___init__ "Fits" (vD (var 1) vN)) qN)))) (retS (cbE tupleD (consA (compE [5] (itA rng2 (consA (bin addD (var 2) (ret (.int 1))) (consA (var 3) nilA))) (gN 5) (tst (bin isnD (frzM (methP 4 [] "Gaps" "cost" fGaps_cost (qC (qP 5 []) (qC (qB subD (qP 5 []) (fun _ => some (.int 1))) (qC (qB addD (qP 5 []) (fun _ => some (.int 1))) qN))))) (ret .none))) (var 5)) nilA)))))
def fmay_first : List M → FOut := defF 4 6 [] gmay_first
def gmay_last : EM FD.Flow := (retS (cbE tupleD (consA (get2E (fldT "Gaps" "own_roots" (callM fgaps_within (arD (var 0) (arD (var 1) (arD (var 2) (arD (var 3) arN)))))) (consA (tupE (consA (var 2) (consA (var 3) nilA))) (consA (lstE nilA) nilA))) nilA)))
def fmay_last : List M → FOut := defF 4 4 [] gmay_last
def g_law_draws : EM FD.Flow := (seqS (setS 1 (ifE (tst (bin neD (var 0) (lstE nilA))) (cbE listD (consA (var 0) nilA)) (lstE (consA (ret (.int 0)) nilA)))) (seqS (setM 2 (lstM nilA)) (seqS (forS (itA enA (consA (slE (var 1) (ret none) (intE (ret (.int 6)))) nilA)) (gT 2 (gsCons (gN 3) (gsCons (gN 4) gsNil))) (appOS 2 (dispM ["cells", "at", "left"] (consA (bin addD (slE (var 1) (intE (var 3)) (ret none)) (slE (var 1) (ret none) (intE (var 3)))) (consA (bin mulD (ret (.int 89)) (var 3)) (consA (ifE (tst (bin geI (var 4) (bin powD (ret (.int 10)) (ret (.int 18))))) (var 4) (ret (.int 0))) nilA)))))) (retM (mvM 2)))))
def f_law_draws : List M → FOut := defF 1 5 [] g_law_draws
def g_law_take : EM FD.Flow := (seqS (storeS 0 (ret (.str "at")) (bin addD (pkIxA 0 (ret (.str "at"))) (ret (.int 1)))) (seqS (ifS (tst (bin gtI (pkIxA 0 (ret (.str "left"))) (ret (.int 0)))) (seqS (setS 4 (bin modD (pkIxA 0 (ret (.str "left"))) (var 1))) (seqS (storeS 0 (ret (.str "left")) (bin fdvD (pkIxA 0 (ret (.str "left"))) (var 1))) (retS (var 4)))) (ret .nxt)) (seqS (parS (consA (pkIxA 0 (ret (.str "at"))) (consA (pkIxA 0 (ret (.str "cells"))) nilA)) (gsCons (gN 5) (gsCons (gN 6) gsNil))) (seqS (setS 2 (bin addD (bin addD (bin mulD (bin mulD (ret (.int 7907)) (var 5)) (var 5)) (bin mulD (ret (.int 104723)) (var 5))) (ret (.int 11)))) (seqS (setS 3 (bin addD (bin modD (bin ixA (var 6) (bin modD (var 5) (cbE lenD (consA (var 6) nilA)))) (ret (.int 2147483629))) (var 2))) (seqS (setS 3 (bin modD (bin powD (var 3) (ret (.int 5))) (ret (.int 2147483647)))) (retS (bin modD (bin fdvD (bin modD (bin mulD (var 3) (ret (.int 48271))) (ret (.int 2147483629))) (ret (.int 7))) (var 1)))))))))
def f_law_take : List M → FOut := defF 2 7 [0] g_law_take
def g_law_book : EM FD.Flow := (seqS (setM 3 (lstM nilA)) (seqS (forS (itA rng1 (consA (bin addD (ret (.int 1)) (callD f_law_take (arB 0 (arD (var 2) arN)))) nilA)) (gN 4) (seqS (setS 5 (bin ixA (bin addD (bin addD (var 1) (var 1)) (ret (.str "<**"))) (callD f_law_take (arB 0 (arD (bin addD (bin mulD (ret (.int 2)) (cbE lenD (consA (var 1) nilA))) (ret (.int 3))) arN))))) (seqS (setS 6 (bin ixA (var 1) (callD f_law_take (arB 0 (arD (cbE lenD (consA (var 1) nilA)) arN))))) (seqS (setS 7 (bin ixA (bin addD (bin addD (var 1) (var 1)) (ret (.str ">**"))) (callD f_law_take (arB 0 (arD (bin addD (bin mulD (ret (.int 2)) (cbE lenD (consA (var 1) nilA))) (ret (.int 3))) arN))))) (appS 3 (tupE (consA (var 5) (consA (var 6) (consA (var 7) (consA (bin ixA (lstE (consA (callD f_law_take (arB 0 (arD (ret (.int 10)) arN))) (consA (callD f_law_take (arB 0 (arD (ret (.int 1000)) arN))) nilA))) (bin fdvD (callD f_law_take (arB 0 (arD (ret (.int 4)) arN))) (ret (.int 3)))) nilA)))))))))) (retS (cbE tupleD (consA (var 3) nilA)))))
def f_law_book : List M → FOut := defF 3 8 [0] g_law_book
def g_law_letters : EM FD.Flow := (seqS (setS 1 (bin ixA (lstE (consA (ret (.int 1)) (consA (ret (.int 3)) (consA (ret (.int 5)) (consA (ret (.int 7)) (consA (ret (.int 9)) (consA (ret (.int 11)) (consA (ret (.int 15)) (consA (ret (.int 17)) (consA (ret (.int 19)) (consA (ret (.int 21)) (consA (ret (.int 23)) (consA (ret (.int 25)) nilA))))))))))))) (callD f_law_take (arB 0 (arD (ret (.int 12)) arN))))) (seqS (asgS (tupE (consA (callD f_law_take (arB 0 (arD (ret (.int 26)) arN))) (consA (bin addD (ret (.int 2)) (callD f_law_take (arB 0 (arD (ret (.int 3)) arN)))) nilA))) (gT 2 (gsCons (gN 2) (gsCons (gN 3) gsNil)))) (retS (bnd (compE [4] (itA rng1 (consA (var 3) nilA)) (gN 4) (ret true) (bin ixA (ret (.str "abcdefghijklmnopqrstuvwxyz")) (bin modD (bin addD (var 2) (bin mulD (var 1) (var 4))) (ret (.int 26))))) fun d => lif (joinD "" d)))))
def f_law_letters : List M → FOut := defF 1 5 [0] g_law_letters
def g_law_word : EM FD.Flow := (retS (bnd (compE [3] (itA rng1 (consA (callD f_law_take (arB 0 (arD (bin addD (var 2) (ret (.int 1))) arN))) nilA)) (gN 3) (ret true) (bin ixA (var 1) (callD f_law_take (arB 0 (arD (cbE lenD (consA (var 1) nilA)) arN))))) fun d => lif (joinD "" d)))
def f_law_word : List M → FOut := defF 3 4 [0] g_law_word
def g_law_cost : EM FD.Flow := (seqS (setS 4 (compE [5] (itE itX (var 0)) (gN 5) (andT (tst (bin eqA (bin ixA (var 5) (ret (.int 1))) (var 2))) (andT (tst (bin inA (bin ixA (var 5) (ret (.int 0))) (tupE (consA (var 1) (consA (ret (.str "*")) nilA))))) (tst (bin inA (bin ixA (var 5) (ret (.int 2))) (tupE (consA (var 3) (consA (ret (.str "*")) nilA))))))) (bin ixA (var 5) (ret (.int 3))))) (retS (bnd (var 4) fun d => lif (minDf d))))
def f_law_cost : List M → FOut := defF 4 6 [] g_law_cost
def g_law_at : EM FD.Flow := (retS (ifE (tst (bin ltI (var 1) (ret (.int 0)))) (ret (.str "<")) (ifE (tst (bin geI (var 1) (cbE lenD (consA (var 0) nilA)))) (ret (.str ">")) (bin ixA (var 0) (var 1)))))
def f_law_at : List M → FOut := defF 2 2 [] g_law_at
def g_law_goes : EM FD.Flow := (retS (bin isnD (callD f_law_cost (arD (var 1) (arD (callD f_law_at (arD (var 0) (arD (var 3) arN))) (arD (callD f_law_at (arD (var 0) (arD (var 2) arN))) (arD (callD f_law_at (arD (var 0) (arD (var 4) arN))) arN))))) (ret .none)))
def f_law_goes : List M → FOut := defF 5 5 [] g_law_goes
def g_law_all_gaps : EM FD.Flow := (seqS (setS 1 (lstE nilA)) (seqS (forS (itA rng2 (consA (bin subD (ret (.int 0)) (ret (.int 1))) (consA (var 0) nilA))) (gN 2) (setS 1 (bin addD (var 1) (compE [3] (itA rng2 (consA (bin addD (var 2) (ret (.int 1))) (consA (bin addD (var 0) (ret (.int 1))) nilA))) (gN 3) (ret true) (tupE (consA (var 2) (consA (var 3) nilA))))))) (retS (var 1))))
def f_law_all_gaps : List M → FOut := defF 1 4 [] g_law_all_gaps
def g_law_right : EM FD.Flow := (seqS (setS 4 (compE [8] (itA rng2 (consA (bin addD (var 2) (ret (.int 1))) (consA (var 3) nilA))) (gN 8) (tst (callD f_law_goes (arD (var 0) (arD (var 1) (arD (var 8) (arD (bin subD (var 8) (ret (.int 1))) (arD (bin addD (var 8) (ret (.int 1))) arN))))))) (var 8))) (seqS (setS 5 (compE [8] (itA rng2 (consA (bin addD (var 2) (ret (.int 1))) (consA (var 3) nilA))) (gN 8) (tst (callD f_law_goes (arD (var 0) (arD (var 1) (arD (var 8) (arD (var 2) (arD (var 3) arN))))))) (var 8))) (seqS (setS 5 (compE [8] (itE itX (var 5)) (gN 8) (andT (tst (callD fclears (arD (var 0) (arD (var 1) (arD (var 2) (arD (var 8) arN)))))) (tst (callD fclears (arD (var 0) (arD (var 1) (arD (var 8) (arD (var 3) arN))))))) (var 8))) (seqS (setS 6 (lstE (consA (callD fmay_first (arD (var 0) (arD (var 1) (arD (var 2) (arD (var 3) arN))))) (consA (callD fmay_first (kwA 0 4 [.inl 3, .inl 2, .inl 1, .inl 0] [] arN (arD (var 3) (arD (var 2) (arD (var 1) (arD (var 0) arN)))))) nilA)))) (seqS (ifS (tst (bin neD (cbE reprD (consA (var 6) nilA)) (cbE reprD (consA (repE (consA (cbE tupleD (consA (var 4) nilA)) nilA) (ret (.int 2))) nilA)))) (retS (ret (.bool false))) (ret .nxt)) (seqS (setS 6 (lstE (consA (callD fmay_last (arD (var 0) (arD (var 1) (arD (var 2) (arD (var 3) arN))))) (consA (callD fmay_last (kwA 0 4 [.inl 3, .inl 2, .inl 1, .inl 0] [] arN (arD (var 3) (arD (var 2) (arD (var 1) (arD (var 0) arN)))))) nilA)))) (seqS (ifS (tst (bin neD (cbE reprD (consA (var 6) nilA)) (cbE reprD (consA (repE (consA (cbE tupleD (consA (var 5) nilA)) nilA) (ret (.int 2))) nilA)))) (retS (ret (.bool false))) (ret .nxt)) (seqS (ifS (tst (bin eqA (var 3) (bin addD (var 2) (ret (.int 1))))) (retS (bin isD (callD fclears (arD (var 0) (arD (var 1) (arD (var 2) (arD (var 3) arN))))) (ret (.bool true)))) (ret .nxt)) (seqS (setS 7 (cbE anyD (consA (compE [8] (itE itX (var 4)) (gN 8) (ret true) (callD fclears (arD (bin addD (slE (var 0) (ret none) (intE (var 8))) (slE (var 0) (intE (bin addD (var 8) (ret (.int 1)))) (ret none))) (arD (var 1) (arD (var 2) (arD (bin subD (var 3) (ret (.int 1))) arN)))))) nilA))) (retS (bin eqA (cbE reprD (consA (lstE (consA (callD fclears (arD (var 0) (arD (var 1) (arD (var 2) (arD (var 3) arN))))) (consA (var 7) nilA))) nilA)) (cbE reprD (consA (repE (consA (bin neD (var 5) (lstE nilA)) nilA) (ret (.int 2))) nilA)))))))))))))
def f_law_right : List M → FOut := defF 4 9 [] g_law_right
def glaw : EM FD.Flow := (seqS (forM 1 (callM f_law_draws (arD (var 0) arN)) (seqS (setS 2 (callD f_law_letters (arB 1 arN))) (seqS (asgS (tupE (consA (callD f_law_book (arB 1 (arD (var 2) (arD (ret (.int 14)) arN)))) (consA (callD f_law_word (arB 1 (arD (var 2) (arD (ret (.int 9)) arN)))) nilA))) (gT 2 (gsCons (gN 3) (gsCons (gN 4) gsNil)))) (ifS (notT (tst (cbE allD (consA (compE [5, 6] (itE itX (callD f_law_all_gaps (arD (cbE lenD (consA (var 4) nilA)) arN))) (gT 2 (gsCons (gN 5) (gsCons (gN 6) gsNil))) (ret true) (callD f_law_right (arD (var 4) (arD (var 3) (arD (var 5) (arD (var 6) arN)))))) nilA)))) (retS (ret (.bool false))) (ret .nxt))))) (retS (ret (.bool true))))
def flaw : List M → FOut := defF 1 7 [] glaw
end FDL

namespace FDL
open PySem L2 FD
/-! ### signs -/
def isLet (c : Nat) : Bool := decide (97 ≤ c) && decide (c ≤ 122)
def codes : List Nat := 42 :: 60 :: 62 :: (List.range 26).map (· + 97)
theorem sub_let : ∀ c ∈ codes, subS (sg c) "abcdefghijklmnopqrstuvwxyz" = isLet c := by decide +kernel
@[simp] theorem inA_strs {x y : Str} : inA (.str x) (.str y) = some (.bool (subS x y)) := rfl
theorem is_letter_at {c : Nat} (h : c ∈ codes) : fis_letter [.im (.str (sg c))] = .ok (.im (.bool (isLet c))) [.im (.str (sg c))] := by
  simp [FD.ret, FD.lif, FD.bnd, FD.var, FD.bin, FD.un, FD.tst, FD.andT, FD.orT, FD.notT, FD.andV, FD.orV, FD.notV, FD.ifE, FD.nilA, FD.consA, FD.tupE, FD.lstE, FD.seqS, FD.exprS, FD.retS, FD.retM, FD.ifS, FD.stoM, FD.setS, FD.setM, FD.gN, FD.gsNil, FD.gsCons, FD.gT, FD.goS, FD.asgS, FD.parS, FD.augS, FD.itE, FD.itA, FD.cbE, FD.slE, FD.intE, FD.arN, FD.arD, FD.arB, FD.callD, FD.callM, FD.slotsOf, FD.argM, FD.putB, FD.isIm, FD.endF, FD.backs, FD.args0, FD.defF, FD.chn, FD.lstM, FD.dtM, FD.dkM, FD.imM, FD.frzE, FD.has, FD.chk, FD.pk, FD.pkLen, FD.peekD, FD.pkL, FD.pkR, fis_letter, gis_letter, sub_let c h]
theorem is_side_at {c e : Nat} (h : c ∈ codes) : fis_side [.im (.str (sg c)), .im (.str (sg e))] = .ok (.im (.bool (isLet c || (e == c || 42 == c)))) [.im (.str (sg c)), .im (.str (sg e))] := by
  have hl := is_letter_at h
  cases q : isLet c <;> simp [FD.ret, FD.lif, FD.bnd, FD.var, FD.bin, FD.un, FD.tst, FD.andT, FD.orT, FD.notT, FD.andV, FD.orV, FD.notV, FD.ifE, FD.nilA, FD.consA, FD.tupE, FD.lstE, FD.seqS, FD.exprS, FD.retS, FD.retM, FD.ifS, FD.stoM, FD.setS, FD.setM, FD.gN, FD.gsNil, FD.gsCons, FD.gT, FD.goS, FD.asgS, FD.parS, FD.augS, FD.itE, FD.itA, FD.cbE, FD.slE, FD.intE, FD.arN, FD.arD, FD.arB, FD.callD, FD.callM, FD.slotsOf, FD.argM, FD.putB, FD.isIm, FD.endF, FD.backs, FD.args0, FD.defF, FD.chn, FD.lstM, FD.dtM, FD.dkM, FD.imM, FD.frzE, FD.has, FD.chk, FD.pk, FD.pkLen, FD.peekD, FD.pkL, FD.pkR, fis_side, gis_side, hl, q, star_sg]
theorem is_whole_at {i lo hi : Int} : fis_whole [.im (.int i), .im (.int lo), .im (.int hi)] = .ok (.im (.bool (decide (lo ≤ i) && decide (i ≤ hi)))) [.im (.int i), .im (.int lo), .im (.int hi)] := by
  by_cases h : lo ≤ i <;> simp [FD.ret, FD.lif, FD.bnd, FD.var, FD.bin, FD.un, FD.tst, FD.andT, FD.orT, FD.notT, FD.andV, FD.orV, FD.notV, FD.ifE, FD.nilA, FD.consA, FD.tupE, FD.lstE, FD.seqS, FD.exprS, FD.retS, FD.retM, FD.ifS, FD.stoM, FD.setS, FD.setM, FD.gN, FD.gsNil, FD.gsCons, FD.gT, FD.goS, FD.asgS, FD.parS, FD.augS, FD.itE, FD.itA, FD.cbE, FD.slE, FD.intE, FD.arN, FD.arD, FD.arB, FD.callD, FD.callM, FD.slotsOf, FD.argM, FD.putB, FD.isIm, FD.endF, FD.backs, FD.args0, FD.defF, FD.chn, FD.lstM, FD.dtM, FD.dkM, FD.imM, FD.frzE, FD.has, FD.chk, FD.pk, FD.pkLen, FD.peekD, FD.pkL, FD.pkR, fis_whole, gis_whole, h]
/-- a rule -/
structure Ru where
  a : Nat
  l : Nat
  b : Nat
  p : Int
deriving DecidableEq
def ruD (r : Ru) : D := .tuple [.str (sg r.a), .str (sg r.l), .str (sg r.b), .int r.p]
def okA (c : Nat) : Bool := isLet c || (60 == c || 42 == c)
def okB (c : Nat) : Bool := isLet c || (62 == c || 42 == c)
def okR (r : Ru) : Bool := okA r.a && isLet r.l && okB r.b && (decide (0 ≤ r.p) && decide (r.p ≤ 999))
theorem codes_let {c : Nat} (h : isLet c = true) : c ∈ codes := by
  simp only [isLet, Bool.and_eq_true, decide_eq_true_eq] at h
  refine List.mem_cons_of_mem _ (List.mem_cons_of_mem _ (List.mem_cons_of_mem _ (List.mem_map.mpr ⟨c - 97, List.mem_range.mpr (by omega), by omega⟩)))
theorem codes_A {c : Nat} (h : okA c = true) : c ∈ codes := by
  simp only [okA, Bool.or_eq_true, beq_iff_eq] at h
  rcases h with h | h | h
  · exact codes_let h
  · subst h; decide
  · subst h; decide
theorem codes_B {c : Nat} (h : okB c = true) : c ∈ codes := by
  simp only [okB, Bool.or_eq_true, beq_iff_eq] at h
  rcases h with h | h | h
  · exact codes_let h
  · subst h; decide
  · subst h; decide
theorem rule_looks_at {r : Ru} (h : okR r = true) : frule_looks [.im (ruD r)] = .ok (.im (.list [.bool true, .bool true, .bool true, .bool true])) [.im (ruD r)] := by
  simp only [okR, Bool.and_eq_true] at h
  obtain ⟨⟨⟨h1, h2⟩, h3⟩, h4⟩ := h
  have e1 := is_side_at (e := 60) (codes_A h1)
  have e2 := is_letter_at (codes_let h2)
  have e3 := is_side_at (e := 62) (codes_B h3)
  have e4 := is_whole_at (i := r.p) (lo := 0) (hi := 999)
  simp only [okA, okB] at h1 h3
  rw [h1] at e1
  rw [h2] at e2
  rw [h3] at e3
  rw [show (decide (0 ≤ r.p) && decide (r.p ≤ 999)) = true by rw [h4.1, h4.2]; rfl] at e4
  simp [FD.ret, FD.lif, FD.bnd, FD.var, FD.bin, FD.un, FD.tst, FD.andT, FD.orT, FD.notT, FD.andV, FD.orV, FD.notV, FD.ifE, FD.nilA, FD.consA, FD.tupE, FD.lstE, FD.seqS, FD.exprS, FD.retS, FD.retM, FD.ifS, FD.stoM, FD.setS, FD.setM, FD.gN, FD.gsNil, FD.gsCons, FD.gT, FD.goS, FD.asgS, FD.parS, FD.augS, FD.itE, FD.itA, FD.cbE, FD.slE, FD.intE, FD.arN, FD.arD, FD.arB, FD.callD, FD.callM, FD.slotsOf, FD.argM, FD.putB, FD.isIm, FD.endF, FD.backs, FD.args0, FD.defF, FD.chn, FD.lstM, FD.dtM, FD.dkM, FD.imM, FD.frzE, FD.has, FD.chk, FD.pk, FD.pkLen, FD.peekD, FD.pkL, FD.pkR, frule_looks, grule_looks, ruD, first_sg, last_sg, e1, e2, e3, kwA, pick, e4]
/-! ### books -/
def boD (rs : List Ru) : D := .tuple (rs.map ruD)
def okBo (rs : List Ru) : Prop := (∀ r ∈ rs, okR r = true) ∧ rs.length ≤ 80
theorem false_in4 : inA (.bool false) (.list [.bool true, .bool true, .bool true, .bool true]) = some (.bool false) := rfl
theorem need_book_at {rs : List Ru} (h : okBo rs) : fneed_book [.im (boD rs)] = .ok (.im .none) [.im (boD rs)] := by
  obtain ⟨hr, hl⟩ := h
  have key : ∃ e', loopS (gT 2 (gsCons (gN 1) (gsCons (gN 2) gsNil))) (ifS (orT (notT (tst (un (isiD "tuple") (var 2)))) (orT (tst (bin neD (cbE lenD (consA (var 2) nilA)) (ret (.int 4)))) (tst (bin inA (ret (.bool false)) (callD frule_looks (arD (var 2) arN)))))) (fun _ => .no) (ret .nxt)) (enumDs (rs.map ruD)) [some (.im (boD rs)), none, none] = .ok .nxt e' ∧ ∃ x y, e' = [some (.im (boD rs)), x, y] := by
    refine loopS_inv (fun _ e => ∃ x y, e = [some (.im (boD rs)), x, y]) ⟨_, _, rfl⟩ ?_
    rintro d r e ⟨l, hl⟩ ⟨x, y, rfl⟩
    obtain ⟨i, ru, hru, rfl⟩ : ∃ (i : Nat) (ru : Ru), ru ∈ rs ∧ d = .tuple [.int (i : Nat), ruD ru] := by
      have hm : d ∈ enumDs (rs.map ruD) := by rw [hl]; simp
      obtain ⟨i, hi⟩ := List.mem_iff_getElem?.mp hm
      obtain ⟨y, hy, rfl⟩ := enum_get hi
      rw [List.getElem?_map] at hy
      obtain ⟨ru, h1, rfl⟩ := Option.map_eq_some_iff.mp hy
      exact ⟨i, ru, List.mem_of_getElem? h1, rfl⟩
    have e1 := rule_looks_at (hr ru hru)
    refine ⟨_, [some (.im (boD rs)), some (.im (.int (i : Nat))), some (.im (ruD ru))], rfl, .inl ?_, _, _, rfl⟩
    have f4 := false_in4
    simp only [ruD] at e1 ⊢
    simp [FD.ret, FD.lif, FD.bnd, FD.var, FD.bin, FD.un, FD.tst, FD.andT, FD.orT, FD.notT, FD.andV, FD.orV, FD.notV, FD.ifE, FD.nilA, FD.consA, FD.tupE, FD.lstE, FD.seqS, FD.exprS, FD.retS, FD.retM, FD.ifS, FD.stoM, FD.setS, FD.setM, FD.gN, FD.gsNil, FD.gsCons, FD.gT, FD.goS, FD.asgS, FD.parS, FD.augS, FD.itE, FD.itA, FD.cbE, FD.slE, FD.intE, FD.arN, FD.arD, FD.arB, FD.callD, FD.callM, FD.slotsOf, FD.argM, FD.putB, FD.isIm, FD.endF, FD.backs, FD.args0, FD.defF, FD.chn, FD.lstM, FD.dtM, FD.dkM, FD.imM, FD.frzE, FD.has, FD.chk, FD.pk, FD.pkLen, FD.peekD, FD.pkL, FD.pkR, e1, f4]
  obtain ⟨e', k1, x, y, rfl⟩ := key
  have hl' : ¬ (80 : Int) < ((rs.length : Nat) : Int) := by omega
  have b1 : gneed_book [some (.im (boD rs)), none, none] = .ok .nxt [some (.im (boD rs)), x, y] := by
    unfold gneed_book
    rw [seqS_nxt (e' := [some (.im (boD rs)), none, none]) (by simp [FD.ret, FD.lif, FD.bnd, FD.var, FD.bin, FD.un, FD.tst, FD.andT, FD.orT, FD.notT, FD.andV, FD.orV, FD.notV, FD.ifE, FD.nilA, FD.consA, FD.tupE, FD.lstE, FD.seqS, FD.exprS, FD.retS, FD.retM, FD.ifS, FD.stoM, FD.setS, FD.setM, FD.gN, FD.gsNil, FD.gsCons, FD.gT, FD.goS, FD.asgS, FD.parS, FD.augS, FD.itE, FD.itA, FD.cbE, FD.slE, FD.intE, FD.arN, FD.arD, FD.arB, FD.callD, FD.callM, FD.slotsOf, FD.argM, FD.putB, FD.isIm, FD.endF, FD.backs, FD.args0, FD.defF, FD.chn, FD.lstM, FD.dtM, FD.dkM, FD.imM, FD.frzE, FD.has, FD.chk, FD.pk, FD.pkLen, FD.peekD, FD.pkL, FD.pkR, boD, hl'])]
    rw [forS_eq (ds := enumDs (rs.map ruD)) (e0 := [some (.im (boD rs)), none, none]) (by simp [FD.ret, FD.lif, FD.bnd, FD.var, FD.bin, FD.un, FD.tst, FD.andT, FD.orT, FD.notT, FD.andV, FD.orV, FD.notV, FD.ifE, FD.nilA, FD.consA, FD.tupE, FD.lstE, FD.seqS, FD.exprS, FD.retS, FD.retM, FD.ifS, FD.stoM, FD.setS, FD.setM, FD.gN, FD.gsNil, FD.gsCons, FD.gT, FD.goS, FD.asgS, FD.parS, FD.augS, FD.itE, FD.itA, FD.cbE, FD.slE, FD.intE, FD.arN, FD.arD, FD.arB, FD.callD, FD.callM, FD.slotsOf, FD.argM, FD.putB, FD.isIm, FD.endF, FD.backs, FD.args0, FD.defF, FD.chn, FD.lstM, FD.dtM, FD.dkM, FD.imM, FD.frzE, FD.has, FD.chk, FD.pk, FD.pkLen, FD.peekD, FD.pkL, FD.pkR, boD, enA])]
    exact k1
  simp [FD.ret, FD.lif, FD.bnd, FD.var, FD.bin, FD.un, FD.tst, FD.andT, FD.orT, FD.notT, FD.andV, FD.orV, FD.notV, FD.ifE, FD.nilA, FD.consA, FD.tupE, FD.lstE, FD.seqS, FD.exprS, FD.retS, FD.retM, FD.ifS, FD.stoM, FD.setS, FD.setM, FD.gN, FD.gsNil, FD.gsCons, FD.gT, FD.goS, FD.asgS, FD.parS, FD.augS, FD.itE, FD.itA, FD.cbE, FD.slE, FD.intE, FD.arN, FD.arD, FD.arB, FD.callD, FD.callM, FD.slotsOf, FD.argM, FD.putB, FD.isIm, FD.endF, FD.backs, FD.args0, FD.defF, FD.chn, FD.lstM, FD.dtM, FD.dkM, FD.imM, FD.frzE, FD.has, FD.chk, FD.pk, FD.pkLen, FD.peekD, FD.pkL, FD.pkR, fneed_book, b1]
end FDL

namespace FDL
open PySem L2 FD
/-! ### words -/
def wd (ws : List Nat) : Str := ⟨ws.toArray⟩
theorem wd_len (ws : List Nat) : (wd ws).length = ws.length := by simp [wd, Str.length]
theorem sg_wd (c : Nat) : sg c = wd [c] := rfl
theorem wd_app (a b : List Nat) : wd a ++ wd b = wd (a ++ b) := by
  apply TL.ext_tl
  rw [TL.tl_append]
  simp [TL.tl, wd]
theorem chars_wd (ws : List Nat) : chars (wd ws) = ws.map fun c => .str (sg c) := by simp [chars, wd, sg]
def okW (ws : List Nat) : Prop := (∀ c ∈ ws, isLet c = true) ∧ ws.length ≤ 120
theorem enum_map {α : Type} (f : α → D) (as : List α) : enumDs (as.map f) = as.zipIdx.map fun q => .tuple [.int (q.2 : Nat), f q.1] := by
  unfold enumDs
  rw [List.zipIdx_map, List.map_map]
  rfl
theorem len_wd {ws : List Nat} (h : ws.length ≤ 1000000) : lenD [.str (wd ws)] = some (.int ws.length) := by
  show (if few (wd ws).length = true then some (PyData.int ((wd ws).length : Nat)) else none) = _
  rw [wd_len, if_pos (few_le' h)]
theorem nin_let {c : Nat} (h : isLet c = true) : ninA (.str (sg c)) (.str "abcdefghijklmnopqrstuvwxyz") = some (.bool false) := by
  show some (PyData.bool (!subS (sg c) "abcdefghijklmnopqrstuvwxyz")) = _
  rw [sub_let c (codes_let h), h]
  rfl
theorem need_word_at {ws : List Nat} (h : okW ws) : fneed_word [.im (.str (wd ws))] = .ok (.im .none) [.im (.str (wd ws))] := by
  obtain ⟨h1, h2⟩ := h
  apply wpR_eq
  unfold fneed_word
  refine wpR_def rfl ?_
  have hn : ¬ ((120 : Int) < ((ws.length : Nat) : Int)) := by omega
  simp [gneed_word, args0, len_wd (show ws.length ≤ 1000000 by omega), hn, enS, chars_wd, enum_map]
  refine for_inv (fun done e => ∃ x y, e = [some (.im (.str (wd ws))), x, y]) ⟨_, _, rfl⟩ ?_ ?_
  · rintro done ⟨c, i⟩ rest e hs ⟨x, y, rfl⟩
    have hc : c ∈ ws := by
      have : (c, i) ∈ ws.zipIdx := by rw [hs]; simp
      obtain ⟨_, h⟩ := List.mem_zipIdx this
      simp at h
      rw [h.2]
      exact List.getElem_mem _
    have e1 := nin_let (h1 c hc)
    simp [e1]
  · rintro e ⟨x, y, rfl⟩
    simp
@[simp] theorem neg_int {i : Int} : negD (.int i) = some (.int (-i)) := rfl
theorem need_gap_at {ws : List Nat} {p q : Int} (hl : ws.length ≤ 120) (hp : -1 ≤ p) (hp' : p ≤ ws.length - 1) (hq : p + 1 ≤ q) (hq' : q ≤ ws.length) : fneed_gap [.im (.str (wd ws)), .im (.int p), .im (.int q)] = .ok (.im .none) [.im (.str (wd ws)), .im (.int p), .im (.int q)] := by
  apply wpR_eq
  unfold fneed_gap
  refine wpR_def rfl ?_
  have e1 := is_whole_at (i := p) (lo := -1) (hi := ((ws.length : Nat) : Int) - 1)
  have e2 := is_whole_at (i := q) (lo := p + 1) (hi := ((ws.length : Nat) : Int))
  simp [hp, hp'] at e1
  simp [hq, hq'] at e2
  simp [gneed_gap, args0, len_wd (show ws.length ≤ 1000000 by omega), pick, e1, e2]
theorem need_all_at {ws : List Nat} {rs : List Ru} {p q : Int} (hw : okW ws) (hb : okBo rs) (hp : -1 ≤ p) (hp' : p ≤ ws.length - 1) (hq : p + 1 ≤ q) (hq' : q ≤ ws.length) : fneed_all [.im (.str (wd ws)), .im (boD rs), .im (.int p), .im (.int q)] = .ok (.im .none) [.im (.str (wd ws)), .im (boD rs), .im (.int p), .im (.int q)] := by
  have e1 := need_word_at hw
  have e2 := need_book_at hb
  have e3 := need_gap_at hw.2 hp hp' hq hq'
  apply wpR_eq
  unfold fneed_all
  refine wpR_def rfl ?_
  simp [gneed_all, args0, e1, e2, e3]
end FDL

namespace FDL
open PySem L2 FD
/-! ### the objects -/
def fitsM (r c : M) : M := .ob "Fits" [("own_rules", r), ("own_costs", c)]
def gapsM (w f r : M) : M := .ob "Gaps" [("own_word", w), ("own_fits", f), ("own_roots", r)]
theorem kn1 : (("own_costs" : Str) == ("own_rules" : Str)) = false := by decide +kernel
theorem kn2 : (("own_fits" : Str) == ("own_word" : Str)) = false := by decide +kernel
theorem kn3 : (("own_roots" : Str) == ("own_word" : Str)) = false := by decide +kernel
theorem kn4 : (("own_roots" : Str) == ("own_fits" : Str)) = false := by decide +kernel
theorem ke1 : ¬ (("own_rules" : Str) = ("own_costs" : Str)) := by decide +kernel
theorem ke2 : ¬ (("own_word" : Str) = ("own_fits" : Str)) := by decide +kernel
theorem ke3 : ¬ (("own_word" : Str) = ("own_roots" : Str)) := by decide +kernel
theorem ke4 : ¬ (("own_fits" : Str) = ("own_roots" : Str)) := by decide +kernel
theorem lk_cons {α : Type} {f g : Str} {v : α} {r : List (Str × α)} : List.lookup f ((g, v) :: r) = if (f == g) = true then some v else List.lookup f r := by
  rw [List.lookup_cons]
  cases f == g <;> rfl
@[simp] theorem fits_r {r c : M} : getP [("Fits", "own_rules")] (fitsM r c) = some r := by
  simp [getP, fitsM, lk_cons]
@[simp] theorem fits_c {r c : M} : getP [("Fits", "own_costs")] (fitsM r c) = some c := by
  simp [getP, fitsM, lk_cons, kn1]
@[simp] theorem fits_sr {r c n : M} : setP [("Fits", "own_rules")] (fitsM r c) n = fitsM n c := by
  simp [setP, fitsM, lk_cons, putG]
@[simp] theorem fits_sc {r c n : M} : setP [("Fits", "own_costs")] (fitsM r c) n = fitsM r n := by
  simp [setP, fitsM, lk_cons, putG, kn1, ke1]
@[simp] theorem gaps_w {w f r : M} : getP [("Gaps", "own_word")] (gapsM w f r) = some w := by
  simp [getP, gapsM, lk_cons]
@[simp] theorem gaps_f {w f r : M} : getP [("Gaps", "own_fits")] (gapsM w f r) = some f := by
  simp [getP, gapsM, lk_cons, kn2]
@[simp] theorem gaps_r {w f r : M} : getP [("Gaps", "own_roots")] (gapsM w f r) = some r := by
  simp [getP, gapsM, lk_cons, kn3, kn4]
@[simp] theorem gaps_sf {w f r n : M} : setP [("Gaps", "own_fits")] (gapsM w f r) n = gapsM w n r := by
  simp [setP, gapsM, lk_cons, putG, kn2, ke2]
@[simp] theorem gaps_sr {w f r n : M} : setP [("Gaps", "own_roots")] (gapsM w f r) n = gapsM w f n := by
  simp [setP, gapsM, lk_cons, putG, kn3, kn4, ke3, ke4]
@[simp] theorem gaps_fld {w f r : M} : fldOf "Gaps" "own_roots" (gapsM w f r) = r.toD := by
  simp [fldOf, gapsM, lk_cons, kn3, kn4]
@[simp] theorem ob_cost {r c : M} : isOb "Fits" "cost" (fitsM r c) = true := by
  simp only [isOb, fitsM, lk_cons, List.lookup_nil]
  rw [show (("cost" : Str) == "own_rules") = false by decide +kernel, show (("cost" : Str) == "own_costs") = false by decide +kernel]
  simp
theorem ob_gaps {w f r : M} {m : Str} (h1 : (m == "own_word") = false) (h2 : (m == "own_fits") = false) (h3 : (m == "own_roots") = false) : isOb "Gaps" m (gapsM w f r) = true := by
  simp only [isOb, gapsM, lk_cons, List.lookup_nil, h1, h2, h3]
  simp
@[simp] theorem ob_gcost {w f r : M} : isOb "Gaps" "cost" (gapsM w f r) = true := ob_gaps (by decide +kernel) (by decide +kernel) (by decide +kernel)
@[simp] theorem ob_gopen {w f r : M} : isOb "Gaps" "is_open" (gapsM w f r) = true := ob_gaps (by decide +kernel) (by decide +kernel) (by decide +kernel)
@[simp] theorem ob_glook {w f r : M} : isOb "Gaps" "look" (gapsM w f r) = true := ob_gaps (by decide +kernel) (by decide +kernel) (by decide +kernel)
@[simp] theorem ob_gwithin {w f r : M} : isOb "Gaps" "look_within" (gapsM w f r) = true := ob_gaps (by decide +kernel) (by decide +kernel) (by decide +kernel)
@[simp] theorem fld_f1 {n : M} : fldK "Fits" "own_rules" n (.ob "Fits" []) = some (.ob "Fits" [("own_rules", n)]) := by simp [fldK, putG]
@[simp] theorem fld_f2 {r n : M} : fldK "Fits" "own_costs" n (.ob "Fits" [("own_rules", r)]) = some (fitsM r n) := by simp [fldK, putG, ke1, fitsM]
@[simp] theorem fld_g1 {n : M} : fldK "Gaps" "own_word" n (.ob "Gaps" []) = some (.ob "Gaps" [("own_word", n)]) := by simp [fldK, putG]
@[simp] theorem fld_g2 {w n : M} : fldK "Gaps" "own_fits" n (.ob "Gaps" [("own_word", w)]) = some (.ob "Gaps" [("own_word", w), ("own_fits", n)]) := by simp [fldK, putG, ke2]
@[simp] theorem fld_g3 {w f n : M} : fldK "Gaps" "own_roots" n (.ob "Gaps" [("own_word", w), ("own_fits", f)]) = some (gapsM w f n) := by simp [fldK, putG, ke3, ke4, gapsM]
/-! ### Fits: the rules by their letter -/
def rowD (r : Ru) : D := .tuple [.str (sg r.a), .str (sg r.b), .int r.p]
def rowsL (rs : List Ru) (l : Nat) : List D := (rs.filter (·.l == l)).map rowD
theorem sg_inj {a b : Nat} (h : sg a = sg b) : a = b := by
  have := congrArg (fun s => s.cps.toList) h
  simpa [sg] using this
theorem kinj {a b : Nat} : (Sum.inr (sg a) : Key) = Sum.inr (sg b) ↔ a = b := ⟨fun h => sg_inj (Sum.inr.inj h), fun h => by rw [h]⟩
/-- the rules that are done stand in the dict -/
structure RulesAt (rs : List Ru) (kms : List (Key × M)) : Prop where
  look : ∀ l, lookK kms (.inr (sg l)) = if rowsL rs l = [] then none else some (.ls ((rowsL rs l).map .im))
  all : ∀ p ∈ kms, ∃ ds : List D, p.2 = .ls (ds.map .im)
  len : kms.length ≤ rs.length
theorem rows_snoc {rs : List Ru} {r : Ru} {l : Nat} : rowsL (rs ++ [r]) l = rowsL rs l ++ (if r.l = l then [rowD r] else []) := by
  unfold rowsL
  rw [List.filter_append, List.map_append]
  by_cases h : r.l = l
  · simp [h]
  · simp [h]
theorem look_upd {α : Type} {k k' : Key} {v : α} : ∀ {kms : List (Key × α)}, (lookK kms k).isSome → lookK (updK k v kms) k' = if k' = k then some v else lookK kms k'
  | [], h => by simp [lookK] at h
  | (g, x) :: r, h => by
    by_cases e : g = k
    · subst e
      rw [updK, if_pos rfl]
      by_cases e2 : k' = g
      · rw [if_pos e2, lookK_pos e2.symm]
      · rw [if_neg e2, lookK_neg (Ne.symm e2), lookK_neg (Ne.symm e2)]
    · rw [updK, if_neg e]
      rw [lookK_neg e] at h
      by_cases e3 : g = k'
      · subst e3
        rw [lookK_pos rfl, if_neg e, lookK_pos rfl]
      · rw [lookK_neg e3, lookK_neg e3, look_upd h]
theorem look_app {α : Type} {k k' : Key} {v : α} : ∀ {kms : List (Key × α)}, lookK kms k = none → lookK (kms ++ [(k, v)]) k' = if k' = k then some v else lookK kms k'
  | [], _ => by
    by_cases e : k' = k
    · rw [if_pos e, List.nil_append, lookK_pos e.symm]
    · rw [if_neg e, List.nil_append, lookK_neg (Ne.symm e)]
  | (g, x) :: r, h => by
    by_cases e : g = k
    · rw [lookK_pos e] at h; cases h
    · rw [lookK_neg e] at h
      rw [List.cons_append]
      by_cases e3 : g = k'
      · subst e3
        rw [lookK_pos rfl, if_neg e, lookK_pos rfl]
      · rw [lookK_neg e3, lookK_neg e3, look_app h]
theorem updK_len {α : Type} {k : Key} {v : α} (l : List (Key × α)) : (updK k v l).length = l.length := by
  have := congrArg List.length (updK_names k v l)
  simpa using this
theorem updK_mem {α : Type} {k : Key} {v : α} {p : Key × α} : ∀ {l : List (Key × α)}, p ∈ updK k v l → p ∈ l ∨ p.2 = v
  | [], h => by cases h
  | (g, x) :: r, h => by
    unfold updK at h
    split at h
    · rcases List.mem_cons.mp h with z | z
      · exact .inr (by rw [z])
      · exact .inl (List.mem_cons_of_mem _ z)
    · rcases List.mem_cons.mp h with z | z
      · exact .inl (by rw [z]; exact List.mem_cons_self)
      · exact (updK_mem z).imp (List.mem_cons_of_mem _) id
theorem RulesAt.nil : RulesAt [] [] := ⟨fun l => rfl, (fun p h => by cases h), Nat.le_refl _⟩
theorem RulesAt.old {rs : List Ru} {kms : List (Key × M)} {r : Ru} (h : RulesAt rs kms) (hn : rowsL rs r.l ≠ []) : lookK kms (.inr (sg r.l)) = some (.ls ((rowsL rs r.l).map .im)) ∧ RulesAt (rs ++ [r]) (updK (.inr (sg r.l)) (.ls ((rowsL rs r.l).map .im ++ [.im (rowD r)])) kms) := by
  have h1 : lookK kms (.inr (sg r.l)) = some (.ls ((rowsL rs r.l).map .im)) := by rw [h.look, if_neg hn]
  refine ⟨h1, fun l => ?_, fun p hp => ?_, by rw [updK_len, List.length_append]; have := h.len; omega⟩
  · rw [look_upd (by rw [h1]; rfl), rows_snoc]
    by_cases e : l = r.l
    · subst e
      rw [if_pos rfl, if_pos rfl, if_neg (by simp), List.map_append]
      rfl
    · rw [if_neg fun z => e (kinj.mp z), if_neg (Ne.symm e), List.append_nil, h.look]
  · rcases updK_mem hp with z | z
    · exact h.all p z
    · exact ⟨rowsL rs r.l ++ [rowD r], by rw [z, List.map_append]; rfl⟩
theorem RulesAt.new {rs : List Ru} {kms : List (Key × M)} {r : Ru} (h : RulesAt rs kms) (hn : rowsL rs r.l = []) : lookK kms (.inr (sg r.l)) = none ∧ RulesAt (rs ++ [r]) (kms ++ [(.inr (sg r.l), .ls [.im (rowD r)])]) := by
  have h1 : lookK kms (.inr (sg r.l)) = none := by rw [h.look, if_pos hn]
  refine ⟨h1, fun l => ?_, fun p hp => ?_, by rw [List.length_append, List.length_append]; have := h.len; simp; omega⟩
  · rw [look_app h1, rows_snoc]
    by_cases e : l = r.l
    · subst e
      rw [if_pos rfl, if_pos rfl, hn, if_neg (by simp)]
      rfl
    · rw [if_neg fun z => e (kinj.mp z), if_neg (Ne.symm e), List.append_nil, h.look]
  · rcases List.mem_append.mp hp with z | z
    · exact h.all p z
    · rw [List.mem_singleton.mp z]
      exact ⟨[rowD r], rfl⟩
end FDL

namespace FDL
open PySem L2 FD
theorem few_of {n : Nat} (h : n ≤ 1000000) : few n = true := few_le' h
theorem init_step {rs : List Ru} {kms : List (Key × M)} {r : Ru} {x1 : Option M} {Q : FD.Flow → FD.Env → Prop} (h : RulesAt rs kms) (hl : rs.length ≤ 80)
    (hq : ∀ kms', RulesAt (rs ++ [r]) kms' → Q .nxt [some (fitsM (.dk kms') (.dt [])), x1, some (.im (.str (sg r.a))), some (.im (.str (sg r.l))), some (.im (.str (sg r.b))), some (.im (.int r.p))]) :
    wp (sdApp 0 [("Fits", "own_rules")] (qP 3 []) (qR tupQ (qC (qP 2 []) (qC (qP 4 []) (qC (qP 5 []) qN))))) [some (fitsM (.dk kms) (.dt [])), x1, some (.im (.str (sg r.a))), some (.im (.str (sg r.l))), some (.im (.str (sg r.b))), some (.im (.int r.p))] Q noX := by
  have hk := h.len
  have fk : few (kms.length + 1) = true := few_of (by omega)
  have hr : (rowsL rs r.l).length ≤ rs.length := by unfold rowsL; rw [List.length_map]; exact List.length_filter_le _ _
  unfold wp sdApp
  simp only [pgM_at, List.getElem?_cons_zero, List.getElem?_cons_succ, kPg_at, fits_r, qP_at, getP_nil, kIm_at, Option.bind_some, kOf, fk, if_true]
  by_cases hn : rowsL rs r.l = []
  · obtain ⟨h1, h2⟩ := h.new hn
    rw [h1]
    simp [rowD] at h2 ⊢
    exact hq _ h2
  · obtain ⟨h1, h2⟩ := h.old hn
    rw [h1]
    have fr : ((rowsL rs r.l).length + 1) ≤ 1000000 := by omega
    simp [rowD, fr] at h2 ⊢
    exact hq _ h2
theorem fits_init_at {rs : List Ru} (h : okBo rs) : ∃ kms, RulesAt rs kms ∧ fFits___init__ [.ob "Fits" [], .im (boD rs)] = .ok (.im .none) [fitsM (.dk kms) (.dt []), .im (boD rs)] := by
  have hl := h.2
  suffices hs : wpR (fFits___init__ [.ob "Fits" [], .im (boD rs)]) fun r ms => ∃ kms, RulesAt rs kms ∧ r = .im .none ∧ ms = [fitsM (.dk kms) (.dt []), .im (boD rs)] by
    obtain ⟨r, ms, e, kms, h1, rfl, rfl⟩ := wpR_ex hs
    exact ⟨kms, h1, e⟩
  unfold fFits___init__
  refine wpR_def rfl ?_
  simp [gFits___init__, args0, boD, itX]
  refine for_inv (em := ruD) (fun done e => done.length ≤ rs.length ∧ ∃ kms x2 x3 x4 x5, RulesAt done kms ∧ e = [some (fitsM (.dk kms) (.dt [])), some (.im (.tuple (rs.map ruD))), x2, x3, x4, x5]) ⟨Nat.zero_le _, [], none, none, none, none, RulesAt.nil, rfl⟩ ?_ ?_
  · rintro done r rest e hs ⟨hd, kms, x2, x3, x4, x5, hk, rfl⟩
    have hd2 : done.length + 1 ≤ rs.length := by rw [hs]; simp
    simp [ruD]
    refine init_step hk (by omega) fun kms' h' => ?_
    show _ ∧ _
    exact ⟨by simpa using hd2, kms', h', _, _, _, _, rfl⟩
  · rintro e ⟨_, kms, x2, x3, x4, x5, hk, rfl⟩
    simp [backs_cons]
    exact ⟨kms, hk, rfl⟩
end FDL

namespace FDL
open PySem L2 FD
/-! ### the dict of the rules, as data -/
def RulesD (rs : List Ru) (d : D) : Prop := ∃ kds : List (Key × D), d = .dict (kds.map fun p => (keyD p.1, p.2)) ∧ ∀ l, lookK kds (.inr (sg l)) = if rowsL rs l = [] then none else some (.list (rowsL rs l))
theorem toD_ls {ds : List D} : (M.ls (ds.map .im)).toD = some (.list ds) := by
  show (imAll (ds.map M.im)).map PyData.list = _
  rw [imAll_im]
  rfl
theorem deep_of : ∀ {kms : List (Key × M)}, (∀ p ∈ kms, ∃ ds : List D, p.2 = .ls (ds.map .im)) → ∃ kds : List (Key × D), toDs (kms.map (·.2)) = some (kds.map (·.2)) ∧ kds.map (·.1) = kms.map (·.1) ∧ (∀ k ds, lookK kms k = some (.ls (ds.map .im)) → lookK kds k = some (.list ds)) ∧ ∀ k, lookK kms k = none → lookK kds k = none
  | [], _ => ⟨[], rfl, rfl, (fun k ds h => by cases h), fun k h => rfl⟩
  | (g, m) :: r, h => by
    obtain ⟨kds, h1, h2, h3, h4⟩ := deep_of fun p hp => h p (List.mem_cons_of_mem _ hp)
    obtain ⟨ds, hd⟩ := h (g, m) List.mem_cons_self
    dsimp only at hd
    subst hd
    refine ⟨(g, .list ds) :: kds, ?_, by simp [h2], fun k es he => ?_, fun k he => ?_⟩
    · show ((M.ls (ds.map .im)).toD.bind fun d => (toDs (r.map (·.2))).map (d :: ·)) = _
      rw [toD_ls, h1]
      rfl
    · by_cases e : g = k
      · rw [lookK_pos e] at he ⊢
        have e1 : ds.map M.im = es.map M.im := by
          have := Option.some.inj he
          exact M.ls.inj this
        have e2 := congrArg imAll e1
        rw [imAll_im, imAll_im] at e2
        rw [Option.some.inj e2]
      · rw [lookK_neg e] at he ⊢
        exact h3 k es he
    · by_cases e : g = k
      · rw [lookK_pos e] at he; cases he
      · rw [lookK_neg e] at he ⊢
        exact h4 k he
theorem RulesAt.deep {rs : List Ru} {kms : List (Key × M)} (h : RulesAt rs kms) : ∃ d, (M.dk kms).deep = some d ∧ RulesD rs d := by
  obtain ⟨kds, h1, h2, h3, h4⟩ := deep_of h.all
  refine ⟨_, by show (toDs (kms.map (·.2))).map _ = _; rw [h1]; rfl, kds, ?_, fun l => ?_⟩
  · rw [← h2]
    have : (kds.map (·.1)).zip (kds.map (·.2)) = kds := by
      have e := List.zip_map' (f := fun p : Key × D => p.1) (g := fun p : Key × D => p.2) (l := kds)
      rw [e]
      simp
    dsimp only
    rw [this]
  · have hl := h.look l
    by_cases e : rowsL rs l = []
    · rw [if_pos e] at hl ⊢
      exact h4 _ hl
    · rw [if_neg e] at hl ⊢
      exact h3 _ _ hl
/-! ### prices -/
def fitR (r : Ru) (a l b : Nat) : Bool := r.l == l && ((a == r.a || 42 == r.a) && (b == r.b || 42 == r.b))
def optD : Option Int → D
  | none => .none
  | some i => .int i
def cost (rs : List Ru) (a l b : Nat) : Option Int := minI ((rs.filter fun r => fitR r a l b).map (·.p))
theorem ints_map (ns : List Int) : intsOf (ns.map PyData.int) = some ns := by
  induction ns with
  | nil => rfl
  | cons n ns ih => rw [List.map_cons, intsOf, ih]; rfl
theorem minDf_ints (ns : List Int) : minDf (.list (ns.map .int)) = some (optD (minI ns)) := by
  unfold minDf
  dsimp only
  rw [ints_map]
  cases ns <;> rfl
/-! ### the prices that are known -/
def keyC (a l b : Nat) : List Key := [.inr (sg a), .inr (sg l), .inr (sg b)]
theorem keyC_inj {a l b a' l' b' : Nat} (h : keyC a l b = keyC a' l' b') : a = a' ∧ l = l' ∧ b = b' := by
  simp only [keyC, List.cons.injEq, and_true] at h
  exact ⟨kinj.mp h.1, kinj.mp h.2.1, kinj.mp h.2.2⟩
abbrev Tc := List (List Key × Option Int)
def tcM (tb : Tc) : M := .dt (tb.map fun p => (p.1, .im (optD p.2)))
structure CostsAt (rs : List Ru) (tb : Tc) : Prop where
  all : ∀ p ∈ tb, ∃ a l b, a ∈ codes ∧ l ∈ codes ∧ b ∈ codes ∧ p = (keyC a l b, cost rs a l b)
  nd : (tb.map (·.1)).Nodup
theorem nodup_len {α : Type} [DecidableEq α] : ∀ {l m : List α}, l.Nodup → (∀ x ∈ l, x ∈ m) → l.length ≤ m.length
  | [], _, _, _ => Nat.zero_le _
  | x :: l, m, nd, h => by
    rw [List.nodup_cons] at nd
    have ih := nodup_len (m := m.erase x) nd.2 fun y hy => (List.mem_erase_of_ne fun e => nd.1 (by rw [← e]; exact hy)).mpr (h y (List.mem_cons_of_mem _ hy))
    rw [List.length_erase_of_mem (h x List.mem_cons_self)] at ih
    have := List.length_pos_of_mem (h x List.mem_cons_self)
    rw [List.length_cons]
    omega
theorem flat_len {α β : Type} {f : α → List β} {n : Nat} : ∀ {l : List α}, (∀ x ∈ l, (f x).length = n) → (l.flatMap f).length = l.length * n
  | [], _ => by simp
  | x :: l, h => by
    rw [List.flatMap_cons, List.length_append, h x List.mem_cons_self, flat_len fun y hy => h y (List.mem_cons_of_mem _ hy), List.length_cons, Nat.add_mul, Nat.one_mul, Nat.add_comm]
def allKeys : List (List Key) := codes.flatMap fun a => codes.flatMap fun l => codes.map fun b => keyC a l b
theorem codes_len : codes.length = 29 := by decide
theorem allKeys_len : allKeys.length = 24389 := by
  unfold allKeys
  rw [flat_len (n := 841) fun a _ => by rw [flat_len (n := 29) fun l _ => by rw [List.length_map, codes_len], codes_len], codes_len]
theorem CostsAt.len {rs : List Ru} {tb : Tc} (h : CostsAt rs tb) : tb.length ≤ 24389 := by
  rw [← allKeys_len, ← List.length_map (f := (·.1))]
  refine nodup_len h.nd fun k hk => ?_
  obtain ⟨p, hp, rfl⟩ := List.mem_map.mp hk
  obtain ⟨a, l, b, ha, hl, hb, rfl⟩ := h.all p hp
  exact List.mem_flatMap.mpr ⟨a, ha, List.mem_flatMap.mpr ⟨l, hl, List.mem_map.mpr ⟨b, hb, rfl⟩⟩⟩
theorem look_mem {α : Type} {k : List Key} {v : α} : ∀ {l : List (List Key × α)}, lookK l k = some v → (k, v) ∈ l
  | [], h => by cases h
  | p :: l, h => by
    by_cases e : p.1 = k
    · rw [lookK_pos e] at h
      cases h
      subst e
      exact List.mem_cons_self
    · rw [lookK_neg e] at h
      exact List.mem_cons_of_mem _ (look_mem h)
theorem look_not {α : Type} {k : List Key} : ∀ {l : List (List Key × α)}, lookK l k = none → k ∉ l.map (·.1)
  | [], _ => by simp
  | p :: l, h => by
    by_cases e : p.1 = k
    · rw [lookK_pos e] at h; cases h
    · rw [lookK_neg e] at h
      rw [List.map_cons, List.mem_cons, not_or]
      exact ⟨Ne.symm e, look_not h⟩
theorem CostsAt.known {rs : List Ru} {tb : Tc} {a l b : Nat} {v : Option Int} (h : CostsAt rs tb) (e : lookK tb (keyC a l b) = some v) : v = cost rs a l b := by
  obtain ⟨a', l', b', _, _, _, q⟩ := h.all _ (look_mem e)
  have h1 := congrArg Prod.fst q
  have h2 := congrArg Prod.snd q
  dsimp only at h1 h2
  obtain ⟨rfl, rfl, rfl⟩ := keyC_inj h1
  exact h2
theorem CostsAt.more {rs : List Ru} {tb : Tc} {a l b : Nat} (h : CostsAt rs tb) (ha : a ∈ codes) (hl : l ∈ codes) (hb : b ∈ codes) (e : lookK tb (keyC a l b) = none) : CostsAt rs (tb ++ [(keyC a l b, cost rs a l b)]) := by
  refine ⟨fun p hp => ?_, ?_⟩
  · rcases List.mem_append.mp hp with z | z
    · exact h.all p z
    · rw [List.mem_singleton.mp z]
      exact ⟨a, l, b, ha, hl, hb, rfl⟩
  · rw [List.map_append]
    refine List.nodup_append.mpr ⟨h.nd, by simp, fun x hx y hy z => ?_⟩
    simp only [List.map_cons, List.map_nil, List.mem_singleton] at hy
    subst hy
    subst z
    exact look_not e hx
theorem look_map {α β : Type} {f : α → β} {k : List Key} : ∀ {l : List (List Key × α)}, lookK (l.map fun p => (p.1, f p.2)) k = (lookK l k).map f
  | [] => rfl
  | p :: l => by
    by_cases e : p.1 = k
    · rw [List.map_cons, lookK_pos (by exact e), lookK_pos e]; rfl
    · rw [List.map_cons, lookK_neg (by exact e), lookK_neg e, look_map]
theorem imAll_map {α : Type} (f : α → D) (l : List α) : imAll (l.map fun x => .im (f x)) = some (l.map f) := by
  have := imAll_im (l.map f)
  rw [List.map_map] at this
  exact this
theorem tc_toD {tb : Tc} : (tcM tb).toD = some (.dict ((tb.map fun p => (p.1, optD p.2)).map fun p => (.tuple (p.1.map keyD), p.2))) := by
  show (imAll ((tb.map fun p => (p.1, M.im (optD p.2))).map (·.2))).map _ = _
  have e1 : (tb.map fun p => (p.1, M.im (optD p.2))).map (·.2) = tb.map fun p => M.im (optD p.2) := by rw [List.map_map]; rfl
  rw [e1, imAll_map]
  simp [List.zip_map', List.map_map, Function.comp_def]
theorem tc_get {tb : Tc} {a l b : Nat} : getDD ((tb.map fun p => (p.1, optD p.2)).map fun p => (.tuple (p.1.map keyD), p.2)) (.tuple [.str (sg a), .str (sg l), .str (sg b)]) = some ((lookK tb (keyC a l b)).map optD) := by
  show (dictT _).map (fun x => lookK x (keyC a l b)) = _
  rw [dictT_of, Option.map_some, look_map]
end FDL

namespace FDL
open PySem L2 FD
section
variable {Q : D → FD.Env → Prop} {E : EX} {e : FD.Env} {fa : EM D} {fs : EM (List D)}
def getL (kvs : List (D × D)) : List D → Option D
  | [y, z] => (getDD kvs y).map fun o => o.getD z
  | _ => none
def kGetL (kvs : List (D × D)) (Q : D → FD.Env → Prop) : List D → FD.Env → Prop := fun ys e => wpo (getL kvs ys) Q e
@[simp] theorem kGetL_at {kvs : List (D × D)} {y z : D} : kGetL kvs Q [y, z] e = wpo ((getDD kvs y).map fun o => o.getD z) Q e := rfl
def kGet2 (fs : EM (List D)) (Q : D → FD.Env → Prop) (E : EX) : D → FD.Env → Prop := fun d e => match d with
  | .dict kvs => wp fs e (kGetL kvs Q) E
  | _ => False
@[simp] theorem wp_get2E : wp (get2E fa fs) e Q E = wp fa e (kGet2 fs Q E) E := by
  unfold get2E
  rw [wp_bnd]
  congr
  funext d e1
  cases d with
  | dict kvs =>
    simp only [kGet2]
    rw [wp_bnd]
    congr
    funext ys e2
    rw [wp_lif]
    unfold kGetL getL
    rfl
  | _ => rfl
@[simp] theorem kGet2_at {kvs : List (D × D)} : kGet2 fs Q E (.dict kvs) e = wp fs e (kGetL kvs Q) E := rfl
end
def FitsAt (rs : List Ru) (F : M) : Prop := ∃ r tb, F = fitsM r (tcM tb) ∧ ((∃ kms, RulesAt rs kms ∧ r = .dk kms) ∨ ∃ d, RulesD rs d ∧ r = .im d) ∧ CostsAt rs tb
def tcD (tb : Tc) : D := .dict ((tb.map fun p => (p.1, optD p.2)).map fun p => (.tuple (p.1.map keyD), p.2))
theorem tc_toD' {tb : Tc} : (tcM tb).toD = some (tcD tb) := tc_toD
theorem nin_tc {tb : Tc} {a l b : Nat} : ninPD (.tuple [.str (sg a), .str (sg l), .str (sg b)]) (tcD tb) = some (.bool (lookK tb (keyC a l b)).isNone) := by
  show (getDD _ _).map _ = _
  rw [tc_get]
  cases lookK tb (keyC a l b) <;> rfl
theorem item_tc {tb : Tc} {a l b : Nat} {v : Option Int} (h : lookK tb (keyC a l b) = some v) : itemMM (tcM tb) (.tuple [.str (sg a), .str (sg l), .str (sg b)]) = some (optD v) := by
  show (match lookK (tb.map fun p => (p.1, M.im (optD p.2))) (keyC a l b) with | some (.im d) => some d | _ => none) = _
  rw [look_map (f := fun v => M.im (optD v)), h]
  rfl
theorem sto_tc {tb : Tc} {a l b : Nat} {v : Option Int} (h : lookK tb (keyC a l b) = none) (hl : tb.length ≤ 24389) : stoK (optD v) (tcM tb) (.tuple [.str (sg a), .str (sg l), .str (sg b)]) = some (tcM (tb ++ [(keyC a l b, v)])) := by
  have e1 : lookK (tb.map fun p => (p.1, M.im (optD p.2))) (keyC a l b) = none := by rw [look_map (f := fun v => M.im (optD v)), h]; rfl
  show (if (few ((tb.map fun p => (p.1, M.im (optD p.2))).length + 1) && imK (tb.map fun p => (p.1, M.im (optD p.2))) (keyC a l b)) = true then some (M.dt (putKK (tb.map fun p => (p.1, M.im (optD p.2))) (keyC a l b) (.im (optD v)))) else none) = _
  have e2 : imK (tb.map fun p => (p.1, M.im (optD p.2))) (keyC a l b) = true := by
    unfold imK
    refine List.all_eq_true.mpr fun kv hkv => ?_
    obtain ⟨p, _, rfl⟩ := List.mem_map.mp hkv
    simp
  have e3 : few ((tb.map fun p => (p.1, M.im (optD p.2))).length + 1) = true := few_of (by rw [List.length_map]; omega)
  rw [e2, e3]
  simp only [Bool.and_self, if_true]
  congr 1
  unfold tcM
  congr 1
  have hn := look_not e1
  unfold putKK
  rw [if_neg]
  · rw [List.map_append]; rfl
  · intro z
    obtain ⟨x, hx, hk⟩ := List.any_eq_true.mp z
    exact hn (List.mem_map.mpr ⟨x, hx, by simpa using hk⟩)
@[simp] theorem ix_row0 {a b c : D} : ixA (.tuple [a, b, c]) (.int 0) = some a := rfl
@[simp] theorem ix_row1 {a b c : D} : ixA (.tuple [a, b, c]) (.int 1) = some b := rfl
@[simp] theorem ix_row2 {a b c : D} : ixA (.tuple [a, b, c]) (.int 2) = some c := rfl
theorem lookK_app {tb : Tc} {k : List Key} {v : Option Int} (h : lookK tb k = none) : lookK (tb ++ [(k, v)]) k = some v := by
  induction tb with
  | nil => exact lookK_pos rfl
  | cons p r ih =>
    by_cases e : p.1 = k
    · rw [lookK_pos e] at h; cases h
    · rw [lookK_neg e] at h
      rw [List.cons_append, lookK_neg e]
      exact ih h
theorem fits_cost_at {rs : List Ru} {F : M} {a l b : Nat} (hb0 : okBo rs) (h : FitsAt rs F) (ha : a ∈ codes) (hl : l ∈ codes) (hb : b ∈ codes) :
    ∃ F', FitsAt rs F' ∧ fFits_cost [F, .im (.str (sg a)), .im (.str (sg l)), .im (.str (sg b))] = .ok (.im (optD (cost rs a l b))) [F', .im (.str (sg a)), .im (.str (sg l)), .im (.str (sg b))] := by
  obtain ⟨r, tb, rfl, hr, hc⟩ := h
  suffices hs : wpR (fFits_cost [fitsM r (tcM tb), .im (.str (sg a)), .im (.str (sg l)), .im (.str (sg b))]) fun x ms => ∃ F', FitsAt rs F' ∧ x = .im (optD (cost rs a l b)) ∧ ms = [F', .im (.str (sg a)), .im (.str (sg l)), .im (.str (sg b))] by
    obtain ⟨x, ms, e, F', h1, rfl, rfl⟩ := wpR_ex hs
    exact ⟨F', h1, e⟩
  unfold fFits_cost
  refine wpR_def rfl ?_
  simp [gFits_cost, args0, tc_toD', nin_tc]
  cases hk : lookK tb (keyC a l b) with
  | some v =>
    have e1 := item_tc hk
    have e2 := hc.known hk
    subst e2
    simp [e1, backs_cons]
    exact ⟨r, tb, rfl, hr, hc⟩
  | none =>
    have hcl := hc.len
    have e0 := sto_tc (v := cost rs a l b) hk hcl
    have e1 : itemMM (tcM (tb ++ [(keyC a l b, cost rs a l b)])) (.tuple [.str (sg a), .str (sg l), .str (sg b)]) = some (optD (cost rs a l b)) := item_tc (by rw [lookK_app hk])
    have hc' := hc.more ha hl hb hk
    have tail : ∀ (r' : M) (rows : List Ru), rows.length ≤ 80 → rows = rs.filter (·.l == l) → ((∃ kms, RulesAt rs kms ∧ r' = .dk kms) ∨ ∃ d, RulesD rs d ∧ r' = .im d) → kComp [7] (gN 7) (andT (tst (FD.bin inA (FD.bin ixA (var 7) (FD.ret (PyData.int 0))) (tupE (consA (var 1) (consA (FD.ret (PyData.str (Str.ofString "*"))) nilA))))) (tst (FD.bin inA (FD.bin ixA (var 7) (FD.ret (PyData.int 1))) (tupE (consA (var 3) (consA (FD.ret (PyData.str (Str.ofString "*"))) nilA)))))) (FD.bin ixA (var 7) (FD.ret (PyData.int 2)))
        (kSet 6 (kSeq (stoP 0 [(Str.ofString "Fits", Str.ofString "own_costs")] (qP 4 []) (bnd (var 6) fun d => lif (minDf d))) (kSeq (retS (opP 0 [(Str.ofString "Fits", Str.ofString "own_costs")] (qP 4 []) itemMM)) (kFin [0] [fitsM r (tcM tb), M.im (PyData.str (sg a)), M.im (PyData.str (sg l)), M.im (PyData.str (sg b))] fun x ms => ∃ F', FitsAt rs F' ∧ x = M.im (optD (cost rs a l b)) ∧ ms = [F', M.im (PyData.str (sg a)), M.im (PyData.str (sg l)), M.im (PyData.str (sg b))]) noX) noX)) noX (rows.map rowD)
        [some (fitsM r' (tcM tb)), some (M.im (PyData.str (sg a))), some (M.im (PyData.str (sg l))), some (M.im (PyData.str (sg b))), some (M.im (PyData.tuple [PyData.str (sg a), PyData.str (sg l), PyData.str (sg b)])), some (M.im (.list (rows.map rowD))), none, none] := by
      intro r' rows hlen hrows hr'
      refine comp_all (fun q => (a == q.a || 42 == q.a) && (b == q.b || 42 == q.b)) (fun q => .int q.p) rfl rfl rfl (by omega) (fun q hq => ?_) ?_
      · cases h1 : (a == q.a || 42 == q.a) <;> cases h2 : (b == q.b || 42 == q.b) <;> simp [rowD, star_sg, h1, h2, wipeE, imAt]
      · have ef : (rows.filter fun q => (a == q.a || 42 == q.a) && (b == q.b || 42 == q.b)).map (fun q => PyData.int q.p) = ((rs.filter fun r => fitR r a l b).map (·.p)).map PyData.int := by
          rw [hrows, List.filter_filter, List.map_map]
          congr 1
          apply List.filter_congr
          intro x _
          unfold fitR
          rw [Bool.and_comm]
        rw [ef]
        have em := minDf_ints ((rs.filter fun r => fitR r a l b).map (·.p))
        have ec : minI ((rs.filter fun r => fitR r a l b).map (·.p)) = cost rs a l b := rfl
        rw [ec] at em
        generalize (rs.filter fun r => fitR r a l b).map (·.p) = ns at em ⊢
        simp [em, e0, e1, backs_cons]
        exact ⟨r', _, rfl, hr', hc'⟩
    have hrl : (rs.filter (·.l == l)).length ≤ 80 := Nat.le_trans (List.length_filter_le _ _) hb0.2
    rcases hr with ⟨kms, hr, rfl⟩ | ⟨d, hr, rfl⟩
    · obtain ⟨d, hd, hD⟩ := hr.deep
      obtain ⟨kds, ed, hl2⟩ := id hD
      subst ed
      have hg : getDD (kds.map fun p => (keyD p.1, p.2)) (.str (sg l)) = some (lookK kds (.inr (sg l))) := by
        show (dictK _).map _ = _
        rw [dictK_of]
        rfl
      have hv : (lookK kds (.inr (sg l))).getD (.list []) = .list ((rs.filter (·.l == l)).map rowD) := by
        rw [hl2]
        by_cases e : rowsL rs l = []
        · rw [if_pos e]; show PyData.list [] = _; rw [← e]; rfl
        · rw [if_neg e]; rfl
      have t := tail (.im (.dict (kds.map fun p => (keyD p.1, p.2)))) _ hrl rfl (.inr ⟨_, hD, rfl⟩)
      simp [hd, hg, hv, itX]
      exact t
    · obtain ⟨kds, ed, hl2⟩ := id hr
      subst ed
      have hg : getDD (kds.map fun p => (keyD p.1, p.2)) (.str (sg l)) = some (lookK kds (.inr (sg l))) := by
        show (dictK _).map _ = _
        rw [dictK_of]
        rfl
      have hv : (lookK kds (.inr (sg l))).getD (.list []) = .list ((rs.filter (·.l == l)).map rowD) := by
        rw [hl2]
        by_cases e : rowsL rs l = []
        · rw [if_pos e]; show PyData.list [] = _; rw [← e]; rfl
        · rw [if_neg e]; rfl
      have t := tail (.im (.dict (kds.map fun p => (keyD p.1, p.2)))) _ hrl rfl (.inr ⟨_, hr, rfl⟩)
      simp [hg, hv, itX]
      exact t
end FDL

namespace FDL
open PySem L2 FD GP
/-! ### Gaps -/
def ext (ws : List Nat) : List Nat := 60 :: (ws ++ [62])
def xOf (ws : List Nat) (i : Nat) : Nat := (ext ws).getD i 0
theorem ext_len (ws : List Nat) : (ext ws).length = ws.length + 2 := by simp [ext]
theorem x_codes {ws : List Nat} (h : okW ws) {i : Nat} (hi : i < ws.length + 2) : xOf ws i ∈ codes := by
  have hm : xOf ws i ∈ ext ws := by
    unfold xOf
    rw [List.getD_eq_getElem?_getD, List.getElem?_eq_getElem (by rw [ext_len]; exact hi)]
    exact List.getElem_mem _
  rcases List.mem_cons.mp hm with z | z
  · rw [z]; decide
  · rcases List.mem_append.mp z with z | z
    · exact codes_let (h.1 _ z)
    · rw [List.mem_singleton.mp z]; decide
theorem atI_nat {α : Type} {xs : List α} {i : Nat} (h : i < xs.length) : L2.atI xs (i : Int) = xs[i]? := by
  unfold L2.atI
  have : ixN xs.length (i : Int) = some i := by
    unfold ixN
    simp
    omega
  rw [this]
  rfl
theorem ix_ext {ws : List Nat} {i : Nat} (hl : ws.length ≤ 120) (h : i < ws.length + 2) : ixA (.str (wd (ext ws))) (.int (i : Int)) = some (.str (sg (xOf ws i))) := by
  show (if few (wd (ext ws)).length = true then (L2.atI (wd (ext ws)).cps.toList (i : Int)).map (fun c => PyData.str ⟨#[c]⟩) else none) = _
  have he := ext_len ws
  rw [wd_len, if_pos (few_of (by omega))]
  show (L2.atI (ext ws) (i : Int)).map _ = _
  rw [atI_nat (by omega), List.getElem?_eq_getElem (by omega)]
  unfold xOf
  rw [List.getD_eq_getElem?_getD, List.getElem?_eq_getElem (by omega)]
  rfl
def goG (rs : List Ru) (a l b : Nat) : Bool := (cost rs a l b).isSome
def wM (ws : List Nat) : M := .im (.str (wd (ext ws)))
theorem FitsAt.ob {rs : List Ru} {F : M} (h : FitsAt rs F) : isOb "Fits" "cost" F = true := by
  obtain ⟨r, tb, rfl, _⟩ := h
  exact ob_cost
theorem FitsAt.im {rs : List Ru} {F : M} (h : FitsAt rs F) : isIm F = false := by
  obtain ⟨r, tb, rfl, _⟩ := h
  rfl
theorem gaps_init_at {ws : List Nat} {rs : List Ru} {F : M} (hl : ws.length ≤ 120) (h : FitsAt rs F) : fGaps___init__ [.ob "Gaps" [], .im (.str (wd ws)), F] = .ok (.im .none) [gapsM (wM ws) F (.dt []), .im (.str (wd ws)), .gone] := by
  have e1 : (("<" : Str)) = wd [60] := rfl
  have e2 : ((">" : Str)) = wd [62] := rfl
  have e3 := h.im
  have a1 : addD (.str (wd [60])) (.str (wd ws)) = some (.str (wd (60 :: ws))) := by
    show (if few ((wd [60]).length + (wd ws).length) = true then some (PyData.str (wd [60] ++ wd ws)) else none) = _
    rw [wd_len, wd_len, if_pos (few_of (by simp; omega)), wd_app]
    rfl
  have a2 : addD (.str (wd (60 :: ws))) (.str (wd [62])) = some (.str (wd (ext ws))) := by
    show (if few ((wd (60 :: ws)).length + (wd [62]).length) = true then some (PyData.str (wd (60 :: ws) ++ wd [62])) else none) = _
    rw [wd_len, wd_len, if_pos (few_of (by simp; omega)), wd_app]
    rfl
  apply wpR_eq
  unfold fGaps___init__
  refine wpR_def rfl ?_
  simp [gGaps___init__, args0, e1, e2, a1, a2, e3, backs_cons, wM]
theorem gaps_cost_at {ws : List Nat} {rs : List Ru} {F R : M} {P k Q : Nat} (hw : okW ws) (hb : okBo rs) (h : FitsAt rs F) (hP : P < ws.length + 2) (hk : k < ws.length + 2) (hQ : Q < ws.length + 2) :
    ∃ F', FitsAt rs F' ∧ fGaps_cost [gapsM (wM ws) F R, .im (.int ((k : Int) - 1)), .im (.int ((P : Int) - 1)), .im (.int ((Q : Int) - 1))] = .ok (.im (optD (cost rs (xOf ws P) (xOf ws k) (xOf ws Q)))) [gapsM (wM ws) F' R, .im (.int ((k : Int) - 1)), .im (.int ((P : Int) - 1)), .im (.int ((Q : Int) - 1))] := by
  obtain ⟨F', h1, h2⟩ := fits_cost_at hb h (x_codes hw hP) (x_codes hw hk) (x_codes hw hQ)
  refine ⟨F', h1, ?_⟩
  have i1 := ix_ext hw.2 hP
  have i2 := ix_ext hw.2 hk
  have i3 := ix_ext hw.2 hQ
  have ho := h.ob
  have c1 : ∀ i : Nat, (i : Int) - 1 + 1 = i := fun i => by omega
  apply wpR_eq
  unfold fGaps_cost
  refine wpR_def rfl ?_
  simp [gGaps_cost, args0, wM, c1, i1, i2, i3, ho, h2, backs_cons]
end FDL

namespace FDL
open PySem L2 FD
def natsD (ns : List Nat) : D := .tuple (ns.map fun n => .int (n : Nat))
/-! ### what can be shown -/
structure Gd (k W : Nat) (d : D) : Prop where
  lay : d.canLay0 = true
  shw : d.showable = true
  int : d.intsShort 13 = true
  dep : d.depth ≤ k
  wgt : d.weight ≤ W
theorem Gd.mono {k k' W W' : Nat} {d : D} (h : Gd k W d) (hk : k ≤ k') (hW : W ≤ W') : Gd k' W' d := ⟨h.lay, h.shw, h.int, Nat.le_trans h.dep hk, Nat.le_trans h.wgt hW⟩
theorem gd_all {k W : Nat} : ∀ {ds : List D}, (∀ d ∈ ds, Gd k W d) → PyData.canLayAll0 ds = true ∧ PyData.showableAll ds = true ∧ PyData.intsShortAll 13 ds = true ∧ PyData.depthAll ds ≤ k ∧ PyData.weightAll ds ≤ ds.length * (W + 1)
  | [], _ => ⟨by simp [FD.ret, FD.lif, FD.bnd, FD.var, FD.bin, FD.un, FD.tst, FD.andT, FD.orT, FD.notT, FD.andV, FD.orV, FD.notV, FD.ifE, FD.nilA, FD.consA, FD.tupE, FD.lstE, FD.seqS, FD.exprS, FD.retS, FD.retM, FD.ifS, FD.stoM, FD.setS, FD.setM, FD.gN, FD.gsNil, FD.gsCons, FD.gT, FD.goS, FD.asgS, FD.parS, FD.augS, FD.itE, FD.itA, FD.cbE, FD.slE, FD.intE, FD.arN, FD.arD, FD.arB, FD.callD, FD.callM, FD.slotsOf, FD.argM, FD.putB, FD.isIm, FD.endF, FD.backs, FD.args0, FD.defF, FD.chn, FD.lstM, FD.dtM, FD.dkM, FD.imM, FD.frzE, FD.has, FD.chk, FD.pk, FD.pkLen, FD.peekD, FD.pkL, FD.pkR, PyData.canLayAll0], by simp [FD.ret, FD.lif, FD.bnd, FD.var, FD.bin, FD.un, FD.tst, FD.andT, FD.orT, FD.notT, FD.andV, FD.orV, FD.notV, FD.ifE, FD.nilA, FD.consA, FD.tupE, FD.lstE, FD.seqS, FD.exprS, FD.retS, FD.retM, FD.ifS, FD.stoM, FD.setS, FD.setM, FD.gN, FD.gsNil, FD.gsCons, FD.gT, FD.goS, FD.asgS, FD.parS, FD.augS, FD.itE, FD.itA, FD.cbE, FD.slE, FD.intE, FD.arN, FD.arD, FD.arB, FD.callD, FD.callM, FD.slotsOf, FD.argM, FD.putB, FD.isIm, FD.endF, FD.backs, FD.args0, FD.defF, FD.chn, FD.lstM, FD.dtM, FD.dkM, FD.imM, FD.frzE, FD.has, FD.chk, FD.pk, FD.pkLen, FD.peekD, FD.pkL, FD.pkR, PyData.showableAll], by simp [FD.ret, FD.lif, FD.bnd, FD.var, FD.bin, FD.un, FD.tst, FD.andT, FD.orT, FD.notT, FD.andV, FD.orV, FD.notV, FD.ifE, FD.nilA, FD.consA, FD.tupE, FD.lstE, FD.seqS, FD.exprS, FD.retS, FD.retM, FD.ifS, FD.stoM, FD.setS, FD.setM, FD.gN, FD.gsNil, FD.gsCons, FD.gT, FD.goS, FD.asgS, FD.parS, FD.augS, FD.itE, FD.itA, FD.cbE, FD.slE, FD.intE, FD.arN, FD.arD, FD.arB, FD.callD, FD.callM, FD.slotsOf, FD.argM, FD.putB, FD.isIm, FD.endF, FD.backs, FD.args0, FD.defF, FD.chn, FD.lstM, FD.dtM, FD.dkM, FD.imM, FD.frzE, FD.has, FD.chk, FD.pk, FD.pkLen, FD.peekD, FD.pkL, FD.pkR, PyData.intsShortAll], by simp [FD.ret, FD.lif, FD.bnd, FD.var, FD.bin, FD.un, FD.tst, FD.andT, FD.orT, FD.notT, FD.andV, FD.orV, FD.notV, FD.ifE, FD.nilA, FD.consA, FD.tupE, FD.lstE, FD.seqS, FD.exprS, FD.retS, FD.retM, FD.ifS, FD.stoM, FD.setS, FD.setM, FD.gN, FD.gsNil, FD.gsCons, FD.gT, FD.goS, FD.asgS, FD.parS, FD.augS, FD.itE, FD.itA, FD.cbE, FD.slE, FD.intE, FD.arN, FD.arD, FD.arB, FD.callD, FD.callM, FD.slotsOf, FD.argM, FD.putB, FD.isIm, FD.endF, FD.backs, FD.args0, FD.defF, FD.chn, FD.lstM, FD.dtM, FD.dkM, FD.imM, FD.frzE, FD.has, FD.chk, FD.pk, FD.pkLen, FD.peekD, FD.pkL, FD.pkR, PyData.depthAll], by simp [FD.ret, FD.lif, FD.bnd, FD.var, FD.bin, FD.un, FD.tst, FD.andT, FD.orT, FD.notT, FD.andV, FD.orV, FD.notV, FD.ifE, FD.nilA, FD.consA, FD.tupE, FD.lstE, FD.seqS, FD.exprS, FD.retS, FD.retM, FD.ifS, FD.stoM, FD.setS, FD.setM, FD.gN, FD.gsNil, FD.gsCons, FD.gT, FD.goS, FD.asgS, FD.parS, FD.augS, FD.itE, FD.itA, FD.cbE, FD.slE, FD.intE, FD.arN, FD.arD, FD.arB, FD.callD, FD.callM, FD.slotsOf, FD.argM, FD.putB, FD.isIm, FD.endF, FD.backs, FD.args0, FD.defF, FD.chn, FD.lstM, FD.dtM, FD.dkM, FD.imM, FD.frzE, FD.has, FD.chk, FD.pk, FD.pkLen, FD.peekD, FD.pkL, FD.pkR, PyData.weightAll]⟩
  | d :: ds, h => by
    obtain ⟨h1, h2, h3, h4, h5⟩ := gd_all (ds := ds) fun x hx => h x (List.mem_cons_of_mem _ hx)
    have g := h d List.mem_cons_self
    refine ⟨by simp [FD.ret, FD.lif, FD.bnd, FD.var, FD.bin, FD.un, FD.tst, FD.andT, FD.orT, FD.notT, FD.andV, FD.orV, FD.notV, FD.ifE, FD.nilA, FD.consA, FD.tupE, FD.lstE, FD.seqS, FD.exprS, FD.retS, FD.retM, FD.ifS, FD.stoM, FD.setS, FD.setM, FD.gN, FD.gsNil, FD.gsCons, FD.gT, FD.goS, FD.asgS, FD.parS, FD.augS, FD.itE, FD.itA, FD.cbE, FD.slE, FD.intE, FD.arN, FD.arD, FD.arB, FD.callD, FD.callM, FD.slotsOf, FD.argM, FD.putB, FD.isIm, FD.endF, FD.backs, FD.args0, FD.defF, FD.chn, FD.lstM, FD.dtM, FD.dkM, FD.imM, FD.frzE, FD.has, FD.chk, FD.pk, FD.pkLen, FD.peekD, FD.pkL, FD.pkR, PyData.canLayAll0, g.lay, h1], by simp [FD.ret, FD.lif, FD.bnd, FD.var, FD.bin, FD.un, FD.tst, FD.andT, FD.orT, FD.notT, FD.andV, FD.orV, FD.notV, FD.ifE, FD.nilA, FD.consA, FD.tupE, FD.lstE, FD.seqS, FD.exprS, FD.retS, FD.retM, FD.ifS, FD.stoM, FD.setS, FD.setM, FD.gN, FD.gsNil, FD.gsCons, FD.gT, FD.goS, FD.asgS, FD.parS, FD.augS, FD.itE, FD.itA, FD.cbE, FD.slE, FD.intE, FD.arN, FD.arD, FD.arB, FD.callD, FD.callM, FD.slotsOf, FD.argM, FD.putB, FD.isIm, FD.endF, FD.backs, FD.args0, FD.defF, FD.chn, FD.lstM, FD.dtM, FD.dkM, FD.imM, FD.frzE, FD.has, FD.chk, FD.pk, FD.pkLen, FD.peekD, FD.pkL, FD.pkR, PyData.showableAll, g.shw, h2], by simp [FD.ret, FD.lif, FD.bnd, FD.var, FD.bin, FD.un, FD.tst, FD.andT, FD.orT, FD.notT, FD.andV, FD.orV, FD.notV, FD.ifE, FD.nilA, FD.consA, FD.tupE, FD.lstE, FD.seqS, FD.exprS, FD.retS, FD.retM, FD.ifS, FD.stoM, FD.setS, FD.setM, FD.gN, FD.gsNil, FD.gsCons, FD.gT, FD.goS, FD.asgS, FD.parS, FD.augS, FD.itE, FD.itA, FD.cbE, FD.slE, FD.intE, FD.arN, FD.arD, FD.arB, FD.callD, FD.callM, FD.slotsOf, FD.argM, FD.putB, FD.isIm, FD.endF, FD.backs, FD.args0, FD.defF, FD.chn, FD.lstM, FD.dtM, FD.dkM, FD.imM, FD.frzE, FD.has, FD.chk, FD.pk, FD.pkLen, FD.peekD, FD.pkL, FD.pkR, PyData.intsShortAll, g.int, h3], ?_, ?_⟩
    · simp only [PyData.depthAll]
      exact Nat.max_le.mpr ⟨g.dep, h4⟩
    · simp only [PyData.weightAll, List.length_cons]
      have := g.wgt
      rw [Nat.add_mul, Nat.one_mul]
      omega
theorem gd_list {k W : Nat} {ds : List D} (h : ∀ d ∈ ds, Gd k W d) : Gd (k + 1) (ds.length * (W + 1)) (.list ds) := by
  obtain ⟨h1, h2, h3, h4, h5⟩ := gd_all h
  exact ⟨by simpa [PyData.canLay0] using h1, by simpa [PyData.showable] using h2, by simpa [PyData.intsShort] using h3, by simp only [PyData.depth]; omega, by simpa [PyData.weight] using h5⟩
theorem gd_tup {k W : Nat} {ds : List D} (h : ∀ d ∈ ds, Gd k W d) : Gd (k + 1) (ds.length * (W + 1)) (.tuple ds) := by
  obtain ⟨h1, h2, h3, h4, h5⟩ := gd_all h
  exact ⟨by simpa [PyData.canLay0] using h1, by simpa [PyData.showable] using h2, by simpa [PyData.intsShort] using h3, by simp only [PyData.depth]; omega, by simpa [PyData.weight] using h5⟩
def intOk (n : Nat) : Bool := (PyData.int (n : Nat)).canLay0 && (PyData.int (n : Nat)).showable && (PyData.int (n : Nat)).intsShort 13 && decide ((PyData.int (n : Nat)).weight ≤ 10)
theorem ints_ok : ((List.range 1000).all intOk) = true := by decide +kernel
theorem gd_nat {n : Nat} (h : n < 1000) : Gd 0 10 (.int (n : Nat)) := by
  have := (List.all_eq_true.mp ints_ok) n (List.mem_range.mpr h)
  simp only [intOk, Bool.and_eq_true, decide_eq_true_eq] at this
  exact ⟨this.1.1.1, this.1.1.2, this.1.2, by simp [FD.ret, FD.lif, FD.bnd, FD.var, FD.bin, FD.un, FD.tst, FD.andT, FD.orT, FD.notT, FD.andV, FD.orV, FD.notV, FD.ifE, FD.nilA, FD.consA, FD.tupE, FD.lstE, FD.seqS, FD.exprS, FD.retS, FD.retM, FD.ifS, FD.stoM, FD.setS, FD.setM, FD.gN, FD.gsNil, FD.gsCons, FD.gT, FD.goS, FD.asgS, FD.parS, FD.augS, FD.itE, FD.itA, FD.cbE, FD.slE, FD.intE, FD.arN, FD.arD, FD.arB, FD.callD, FD.callM, FD.slotsOf, FD.argM, FD.putB, FD.isIm, FD.endF, FD.backs, FD.args0, FD.defF, FD.chn, FD.lstM, FD.dtM, FD.dkM, FD.imM, FD.frzE, FD.has, FD.chk, FD.pk, FD.pkLen, FD.peekD, FD.pkL, FD.pkR, PyData.depth], this.2⟩
theorem gd_sg {c : Nat} (h : c < 128) : Gd 0 10 (.str (sg c)) := by
  refine ⟨?_, by simp [FD.ret, FD.lif, FD.bnd, FD.var, FD.bin, FD.un, FD.tst, FD.andT, FD.orT, FD.notT, FD.andV, FD.orV, FD.notV, FD.ifE, FD.nilA, FD.consA, FD.tupE, FD.lstE, FD.seqS, FD.exprS, FD.retS, FD.retM, FD.ifS, FD.stoM, FD.setS, FD.setM, FD.gN, FD.gsNil, FD.gsCons, FD.gT, FD.goS, FD.asgS, FD.parS, FD.augS, FD.itE, FD.itA, FD.cbE, FD.slE, FD.intE, FD.arN, FD.arD, FD.arB, FD.callD, FD.callM, FD.slotsOf, FD.argM, FD.putB, FD.isIm, FD.endF, FD.backs, FD.args0, FD.defF, FD.chn, FD.lstM, FD.dtM, FD.dkM, FD.imM, FD.frzE, FD.has, FD.chk, FD.pk, FD.pkLen, FD.peekD, FD.pkL, FD.pkR, PyData.showable], by simp [FD.ret, FD.lif, FD.bnd, FD.var, FD.bin, FD.un, FD.tst, FD.andT, FD.orT, FD.notT, FD.andV, FD.orV, FD.notV, FD.ifE, FD.nilA, FD.consA, FD.tupE, FD.lstE, FD.seqS, FD.exprS, FD.retS, FD.retM, FD.ifS, FD.stoM, FD.setS, FD.setM, FD.gN, FD.gsNil, FD.gsCons, FD.gT, FD.goS, FD.asgS, FD.parS, FD.augS, FD.itE, FD.itA, FD.cbE, FD.slE, FD.intE, FD.arN, FD.arD, FD.arB, FD.callD, FD.callM, FD.slotsOf, FD.argM, FD.putB, FD.isIm, FD.endF, FD.backs, FD.args0, FD.defF, FD.chn, FD.lstM, FD.dtM, FD.dkM, FD.imM, FD.frzE, FD.has, FD.chk, FD.pk, FD.pkLen, FD.peekD, FD.pkL, FD.pkR, PyData.intsShort], by simp [FD.ret, FD.lif, FD.bnd, FD.var, FD.bin, FD.un, FD.tst, FD.andT, FD.orT, FD.notT, FD.andV, FD.orV, FD.notV, FD.ifE, FD.nilA, FD.consA, FD.tupE, FD.lstE, FD.seqS, FD.exprS, FD.retS, FD.retM, FD.ifS, FD.stoM, FD.setS, FD.setM, FD.gN, FD.gsNil, FD.gsCons, FD.gT, FD.goS, FD.asgS, FD.parS, FD.augS, FD.itE, FD.itA, FD.cbE, FD.slE, FD.intE, FD.arN, FD.arD, FD.arB, FD.callD, FD.callM, FD.slotsOf, FD.argM, FD.putB, FD.isIm, FD.endF, FD.backs, FD.args0, FD.defF, FD.chn, FD.lstM, FD.dtM, FD.dkM, FD.imM, FD.frzE, FD.has, FD.chk, FD.pk, FD.pkLen, FD.peekD, FD.pkL, FD.pkR, PyData.depth], by simp [FD.ret, FD.lif, FD.bnd, FD.var, FD.bin, FD.un, FD.tst, FD.andT, FD.orT, FD.notT, FD.andV, FD.orV, FD.notV, FD.ifE, FD.nilA, FD.consA, FD.tupE, FD.lstE, FD.seqS, FD.exprS, FD.retS, FD.retM, FD.ifS, FD.stoM, FD.setS, FD.setM, FD.gN, FD.gsNil, FD.gsCons, FD.gT, FD.goS, FD.asgS, FD.parS, FD.augS, FD.itE, FD.itA, FD.cbE, FD.slE, FD.intE, FD.arN, FD.arD, FD.arB, FD.callD, FD.callM, FD.slotsOf, FD.argM, FD.putB, FD.isIm, FD.endF, FD.backs, FD.args0, FD.defF, FD.chn, FD.lstM, FD.dtM, FD.dkM, FD.imM, FD.frzE, FD.has, FD.chk, FD.pk, FD.pkLen, FD.peekD, FD.pkL, FD.pkR, PyData.weight, sg]⟩
  simp [FD.ret, FD.lif, FD.bnd, FD.var, FD.bin, FD.un, FD.tst, FD.andT, FD.orT, FD.notT, FD.andV, FD.orV, FD.notV, FD.ifE, FD.nilA, FD.consA, FD.tupE, FD.lstE, FD.seqS, FD.exprS, FD.retS, FD.retM, FD.ifS, FD.stoM, FD.setS, FD.setM, FD.gN, FD.gsNil, FD.gsCons, FD.gT, FD.goS, FD.asgS, FD.parS, FD.augS, FD.itE, FD.itA, FD.cbE, FD.slE, FD.intE, FD.arN, FD.arD, FD.arB, FD.callD, FD.callM, FD.slotsOf, FD.argM, FD.putB, FD.isIm, FD.endF, FD.backs, FD.args0, FD.defF, FD.chn, FD.lstM, FD.dtM, FD.dkM, FD.imM, FD.frzE, FD.has, FD.chk, FD.pk, FD.pkLen, FD.peekD, FD.pkL, FD.pkR, PyData.canLay0, PyData.strOk, sg]
  omega
theorem rep_of {k W : Nat} {d : D} (h : Gd k W d) (hs : isSq d = true) (hk : k ≤ 40) (hW : W ≤ 2 ^ 20) : reprD [d] = some (.str d.shown) := by
  have : repOk d = true := by
    unfold repOk
    rw [hs, h.lay, h.shw, h.int, decide_eq_true (Nat.le_trans h.dep hk), decide_eq_true (Nat.le_trans h.wgt hW)]
    rfl
  show (if repOk d then some (PyData.str d.shown) else none) = _
  rw [if_pos this]
theorem let_lt {c : Nat} (h : c ∈ codes) : c < 128 := by
  have : ∀ c ∈ codes, c < 128 := by decide
  exact this c h
theorem gd_ru {r : Ru} (h : okR r = true) : Gd 1 44 (ruD r) := by
  simp only [okR, Bool.and_eq_true, decide_eq_true_eq] at h
  obtain ⟨⟨⟨h1, h2⟩, h3⟩, h4, h5⟩ := h
  have g := gd_tup (k := 0) (W := 10) (ds := [.str (sg r.a), .str (sg r.l), .str (sg r.b), .int r.p]) ?_
  · exact g
  intro d hd
  simp only [List.mem_cons, List.not_mem_nil, or_false] at hd
  rcases hd with z | z | z | z
  · rw [z]; exact gd_sg (let_lt (codes_A h1))
  · rw [z]; exact gd_sg (let_lt (codes_let h2))
  · rw [z]; exact gd_sg (let_lt (codes_B h3))
  · rw [z]
    obtain ⟨n, hn⟩ := Int.eq_ofNat_of_zero_le h4
    rw [hn]
    exact gd_nat (by omega)
theorem gd_bo {rs : List Ru} (h : okBo rs) : Gd 2 3600 (boD rs) := by
  have g := gd_tup (k := 1) (W := 44) (ds := rs.map ruD) fun d hd => by
    obtain ⟨r, hr, rfl⟩ := List.mem_map.mp hd
    exact gd_ru (h.1 r hr)
  refine g.mono (Nat.le_refl _) ?_
  rw [List.length_map]
  have := h.2
  omega
theorem gd_nats {ns : List Nat} (h1 : ∀ n ∈ ns, n < 1000) (h2 : ns.length ≤ 80) : Gd 2 3600 (natsD ns) := by
  have g := gd_tup (k := 0) (W := 10) (ds := ns.map fun n => PyData.int (n : Nat)) fun d hd => by
    obtain ⟨n, hn, rfl⟩ := List.mem_map.mp hd
    exact gd_nat (h1 n hn)
  refine g.mono (by decide) ?_
  rw [List.length_map]
  omega
theorem gd_list3 {ds : List D} (h : ∀ d ∈ ds, Gd 2 3600 d) (hl : ds.length ≤ 3) : reprD [.list ds] = some (.str (PyData.list ds).shown) := by
  have g := (gd_list h).mono (k' := 3) (W' := 20000) (Nat.le_refl _) (by
    have : ds.length * (3600 + 1) ≤ 3 * (3600 + 1) := Nat.mul_le_mul_right _ hl
    omega)
  exact rep_of g rfl (by decide) (by decide)
theorem ne_same {x : Str} : neD (.str x) (.str x) = some (.bool false) := by simp
theorem ru_eqv {r s : Ru} : PyData.eqv (ruD r) (ruD s) = true → r = s := by
  intro h
  obtain ⟨a, l, b, p⟩ := r
  obtain ⟨a', l', b', p'⟩ := s
  simp [FD.ret, FD.lif, FD.bnd, FD.var, FD.bin, FD.un, FD.tst, FD.andT, FD.orT, FD.notT, FD.andV, FD.orV, FD.notV, FD.ifE, FD.nilA, FD.consA, FD.tupE, FD.lstE, FD.seqS, FD.exprS, FD.retS, FD.retM, FD.ifS, FD.stoM, FD.setS, FD.setM, FD.gN, FD.gsNil, FD.gsCons, FD.gT, FD.goS, FD.asgS, FD.parS, FD.augS, FD.itE, FD.itA, FD.cbE, FD.slE, FD.intE, FD.arN, FD.arD, FD.arB, FD.callD, FD.callM, FD.slotsOf, FD.argM, FD.putB, FD.isIm, FD.endF, FD.backs, FD.args0, FD.defF, FD.chn, FD.lstM, FD.dtM, FD.dkM, FD.imM, FD.frzE, FD.has, FD.chk, FD.pk, FD.pkLen, FD.peekD, FD.pkL, FD.pkR, ruD, PyData.eqv, PyData.eqvAll] at h
  obtain ⟨h1, h2, h3, h4⟩ := h
  subst h1 h2 h3 h4
  rfl
theorem Gd.shp {k W : Nat} {d : D} (h : Gd k W d) (hk : k ≤ 64) : SeqAt.shaped d = true := by
  unfold SeqAt.shaped
  rw [h.lay, decide_eq_true (Nat.le_trans h.dep hk)]
  rfl
theorem ne_nil {ks : List Nat} (h : ∀ k ∈ ks, k < 1000) : neD (.list (ks.map fun k : Nat => PyData.int (k : Int))) (.list []) = some (.bool (!ks.isEmpty)) := by
  have s1 := (gd_list (k := 0) (W := 10) (ds := ks.map fun k : Nat => PyData.int (k : Int)) fun d hd => by
    obtain ⟨g, h1, rfl⟩ := List.mem_map.mp hd
    exact gd_nat (h g h1)).shp (by decide)
  have : eqOk (.list (ks.map fun k : Nat => PyData.int (k : Int))) (.list []) = true := by
    unfold eqOk
    rw [s1]
    simp
    exact .inr rfl
  unfold neD
  rw [if_pos this]
  cases ks <;> rfl
end FDL

namespace FDL
open PySem L2 FD GP
/-! ### the gaps that are known: places count from the first end, 1 the first letter -/
def keyG (i j : Nat) : List Key := [.inl ((i : Int) - 1), .inl ((j : Int) - 1)]
theorem keyG_inj {i j i' j' : Nat} (h : keyG i j = keyG i' j') : i = i' ∧ j = j' := by
  simp only [keyG, List.cons.injEq, and_true, Sum.inl.injEq] at h
  omega
abbrev Tr := List (List Key × List Nat)
/-- letters by their places -/
def plD (ks : List Nat) : D := .list (ks.map fun k : Nat => PyData.int (k : Int))
def trM (rt : Tr) : M := .dt (rt.map fun p => (p.1, .im (plD p.2)))
noncomputable def opn (rs : List Ru) (ws : List Nat) (lo hi : Nat) : Bool := @decide (Op (goG rs) (xOf ws) lo hi) (Classical.propDecidable _)
theorem opn_iff {rs : List Ru} {ws : List Nat} {lo hi : Nat} : opn rs ws lo hi = true ↔ Op (goG rs) (xOf ws) lo hi := by
  unfold opn
  exact @decide_eq_true_iff _ (Classical.propDecidable _)
/-- the letters that may go last, by their places (the first is 0) -/
noncomputable def roots (rs : List Ru) (ws : List Nat) (lo hi : Nat) : List Nat := (List.range' lo (hi - lo - 1)).filter fun k => goG rs (xOf ws lo) (xOf ws (k + 1)) (xOf ws hi) && (opn rs ws lo (k + 1) && opn rs ws (k + 1) hi)
theorem roots_nil {rs : List Ru} {ws : List Nat} {lo hi : Nat} (h : lo + 1 < hi) : (roots rs ws lo hi).isEmpty = !opn rs ws lo hi := by
  have key : opn rs ws lo hi = true ↔ roots rs ws lo hi ≠ [] := by
    rw [opn_iff, op_last h]
    constructor
    · rintro ⟨k, h1, h2, h3, h4, h5⟩
      have hm : k - 1 ∈ roots rs ws lo hi := by
        unfold roots
        refine List.mem_filter.mpr ⟨List.mem_range'_1.mpr (by omega), ?_⟩
        rw [show k - 1 + 1 = k by omega, h3, opn_iff.mpr h4, opn_iff.mpr h5]
        rfl
      exact fun z => by rw [z] at hm; cases hm
    · intro hn
      obtain ⟨k, hk⟩ := List.exists_mem_of_ne_nil _ hn
      obtain ⟨h1, h2⟩ := List.mem_filter.mp hk
      simp only [Bool.and_eq_true] at h2
      rw [List.mem_range'_1] at h1
      exact ⟨k + 1, by omega, by omega, h2.1, opn_iff.mp h2.2.1, opn_iff.mp h2.2.2⟩
  cases ho : opn rs ws lo hi with
  | true =>
    have := key.mp ho
    cases hr : roots rs ws lo hi with
    | nil => exact absurd hr this
    | cons => rfl
  | false =>
    cases hr : roots rs ws lo hi with
    | nil => rfl
    | cons x r =>
      have := key.mpr (by rw [hr]; intro z; cases z)
      rw [ho] at this
      cases this
theorem roots_lt {rs : List Ru} {ws : List Nat} {lo hi : Nat} (h : hi ≤ 122) : ∀ k ∈ roots rs ws lo hi, k < 1000 := fun k hk => by
  have := (List.mem_filter.mp hk).1
  rw [List.mem_range'_1] at this
  omega
theorem look_tr {rt : Tr} {k : List Key} : lookK (rt.map fun p => (p.1, M.im (plD p.2))) k = (lookK rt k).map fun ks => M.im (plD ks) := look_map (f := fun ks => M.im (plD ks))
theorem item_tr {rt : Tr} {i j : Nat} {ks : List Nat} (h : lookK rt (keyG i j) = some ks) : itemMM (trM rt) (.tuple [.int ((i : Int) - 1), .int ((j : Int) - 1)]) = some (plD ks) := by
  show (match lookK (rt.map fun p => (p.1, M.im (plD p.2))) (keyG i j) with | some (.im d) => some d | _ => none) = _
  rw [look_tr, h]
  rfl
/-- the gap lo..hi is known, or of no letter -/
def Knows (rs : List Ru) (ws : List Nat) (rt : Tr) (lo hi : Nat) : Prop := hi = lo + 1 ∨ (lo + 1 < hi ∧ lookK rt (keyG lo hi) = some (roots rs ws lo hi))
theorem is_open_at {ws : List Nat} {rs : List Ru} {F : M} {rt : Tr} {lo hi : Nat} (hl : hi ≤ 122) (hk : Knows rs ws rt lo hi) :
    fGaps_is_open [gapsM (wM ws) F (trM rt), .im (.int ((lo : Int) - 1)), .im (.int ((hi : Int) - 1))] = .ok (.im (.bool (opn rs ws lo hi))) [gapsM (wM ws) F (trM rt), .im (.int ((lo : Int) - 1)), .im (.int ((hi : Int) - 1))] := by
  apply wpR_eq
  unfold fGaps_is_open
  refine wpR_def rfl ?_
  rcases hk with e | ⟨h1, h2⟩
  · subst e
    have e1 : (((lo : Nat) : Int) - ((lo : Int) - 1) == 1) = true := by rw [beq_iff_eq]; omega
    have e2 : opn rs ws lo (lo + 1) = true := opn_iff.mpr (.one lo)
    simp [gGaps_is_open, args0, e1, e2, backs_cons]
  · have e1 : ((hi : Int) - 1 - ((lo : Int) - 1) == 1) = false := by rw [beq_eq_false_iff_ne]; omega
    have e2 := item_tr h2
    have e3 : neD (plD (roots rs ws lo hi)) (.list []) = some (.bool (opn rs ws lo hi)) := by
      unfold plD
      rw [ne_nil (roots_lt hl), roots_nil h1]
      simp
    simp [gGaps_is_open, args0, e1, e2, e3, backs_cons]
end FDL

namespace FDL
open PySem L2 FD GP
theorem rng_at {i j : Int} {lo n : Nat} (hi : i = (lo : Int)) (hj : j = (lo : Int) + n) (hb : lo + n ≤ 1000) : rng2 [.int i, .int j] = some ((List.range' lo n).map fun k : Nat => PyData.int (k : Int)) := by
  subst hi hj
  have h1 : (small (lo : Int) && small ((lo : Int) + n)) = true := by
    unfold small
    simp
    omega
  show (if (small (lo : Int) && small ((lo : Int) + n)) = true then some (rngDs (lo : Int) ((lo : Int) + n)) else none) = _
  rw [if_pos h1]
  refine congrArg some ?_
  unfold rngDs
  rw [show ((lo : Int) + n - lo).toNat = n by omega, List.range'_eq_map_range, List.map_map]
  refine List.map_congr_left fun k _ => ?_
  show PyData.int ((lo : Int) + (k : Int)) = PyData.int ((lo + k : Nat) : Int)
  rw [Int.natCast_add]
theorem isn_opt {c : Option Int} : isnD (optD c) .none = some (.bool c.isSome) := by cases c <;> rfl
theorem sto_tr {rt : Tr} {i j : Nat} {ks : List Nat} (h : lookK rt (keyG i j) = none) (hl : rt.length ≤ 20000) : stoK (plD ks) (trM rt) (.tuple [.int ((i : Int) - 1), .int ((j : Int) - 1)]) = some (trM (rt ++ [(keyG i j, ks)])) := by
  have e1 : lookK (rt.map fun p => (p.1, M.im (plD p.2))) (keyG i j) = none := by rw [look_tr, h]; rfl
  show (if (few ((rt.map fun p => (p.1, M.im (plD p.2))).length + 1) && imK (rt.map fun p => (p.1, M.im (plD p.2))) (keyG i j)) = true then some (M.dt (putKK (rt.map fun p => (p.1, M.im (plD p.2))) (keyG i j) (.im (plD ks)))) else none) = _
  have e2 : imK (rt.map fun p => (p.1, M.im (plD p.2))) (keyG i j) = true := by
    unfold imK
    refine List.all_eq_true.mpr fun kv hkv => ?_
    obtain ⟨p, _, rfl⟩ := List.mem_map.mp hkv
    simp
  have e3 : few ((rt.map fun p => (p.1, M.im (plD p.2))).length + 1) = true := few_of (by rw [List.length_map]; omega)
  rw [e2, e3]
  simp only [Bool.and_self, if_true]
  congr 1
  unfold trM
  congr 1
  have hn := look_not e1
  unfold putKK
  rw [if_neg]
  · rw [List.map_append]; rfl
  · intro z
    obtain ⟨x, hx, hk⟩ := List.any_eq_true.mp z
    exact hn (List.mem_map.mpr ⟨x, hx, by simpa using hk⟩)
def ILook (rs : List Ru) (ws : List Nat) (lo hi : Nat) (R : M) (rest : List Nat) (ys : List D) (e : FD.Env) : Prop :=
  ∃ F done, FitsAt rs F ∧ List.range' lo (hi - lo - 1) = done ++ rest ∧ ys = (done.filter fun k => goG rs (xOf ws lo) (xOf ws (k + 1)) (xOf ws hi) && (opn rs ws lo (k + 1) && opn rs ws (k + 1) hi)).map (fun k : Nat => PyData.int (k : Int)) ∧ e = [some (gapsM (wM ws) F R), some (.im (.int ((lo : Int) - 1))), some (.im (.int ((hi : Int) - 1))), none]
theorem look_at {ws : List Nat} {rs : List Ru} {F : M} {rt : Tr} {lo hi : Nat} (hw : okW ws) (hb : okBo rs) (hF : FitsAt rs F) (h1 : lo + 1 < hi) (h2 : hi ≤ ws.length + 1) (hn : lookK rt (keyG lo hi) = none) (hl : rt.length ≤ 20000) (hk : ∀ k, lo < k → k < hi → Knows rs ws rt lo k ∧ Knows rs ws rt k hi) :
    ∃ F', FitsAt rs F' ∧ fGaps_look [gapsM (wM ws) F (trM rt), .im (.int ((lo : Int) - 1)), .im (.int ((hi : Int) - 1))] = .ok (.im .none) [gapsM (wM ws) F' (trM (rt ++ [(keyG lo hi, roots rs ws lo hi)])), .im (.int ((lo : Int) - 1)), .im (.int ((hi : Int) - 1))] := by
  have hwl := hw.2
  suffices hs : wpR (fGaps_look [gapsM (wM ws) F (trM rt), .im (.int ((lo : Int) - 1)), .im (.int ((hi : Int) - 1))]) fun x ms => ∃ F', FitsAt rs F' ∧ x = .im .none ∧ ms = [gapsM (wM ws) F' (trM (rt ++ [(keyG lo hi, roots rs ws lo hi)])), .im (.int ((lo : Int) - 1)), .im (.int ((hi : Int) - 1))] by
    obtain ⟨x, ms, e, F', h1, rfl, rfl⟩ := wpR_ex hs
    exact ⟨F', h1, e⟩
  unfold fGaps_look
  refine wpR_def rfl ?_
  have er := rng_at (i := (lo : Int) - 1 + 1) (j := (hi : Int) - 1) (lo := lo) (n := hi - lo - 1) (by omega) (by omega) (by omega)
  have es := sto_tr (ks := roots rs ws lo hi) hn hl
  simp only [gGaps_look, args0, List.map_cons, List.map_nil, List.length_cons, List.length_nil, List.replicate, List.cons_append, List.nil_append, wp_stoP, wp_compE, wp_itA, wp_consA, wp_bin, wp_var, wp_ret, wp_nilA, List.getElem?_cons_zero, List.getElem?_cons_succ, kVar_im, kBin1_at, kBin2_at, kCons1_at, kCons2_at, kItA_at, addD, wpo_some, er]
  refine comp_inv (ILook rs ws lo hi (trM rt)) rfl ⟨F, [], hF, rfl, rfl, rfl⟩ ?_ ?_
  · rintro a rest ys e ⟨F1, done, hF1, hd, rfl, rfl⟩
    have ha : lo ≤ a ∧ a < lo + (hi - lo - 1) := by
      have : a ∈ List.range' lo (hi - lo - 1) := by rw [hd]; simp
      rwa [List.mem_range'_1] at this
    obtain ⟨F2, hF2, ec⟩ := gaps_cost_at (R := trM rt) (P := lo) (k := a + 1) (Q := hi) hw hb hF1 (by omega) (by omega) (by omega)
    have ea : (((a + 1 : Nat) : Int) - 1) = (a : Int) := by omega
    rw [ea] at ec
    have k12 := hk (a + 1) (by omega) (by omega)
    have o1 := is_open_at (F := F2) (by omega) k12.1
    have o2 := is_open_at (F := F2) (by omega) k12.2
    rw [ea] at o1 o2
    have ic : isnD (optD (cost rs (xOf ws lo) (xOf ws (a + 1)) (xOf ws hi))) .none = some (.bool (goG rs (xOf ws lo) (xOf ws (a + 1)) (xOf ws hi))) := isn_opt
    have fin : ∀ b : Bool, b = (goG rs (xOf ws lo) (xOf ws (a + 1)) (xOf ws hi) && (opn rs ws lo (a + 1) && opn rs ws (a + 1) hi)) → ILook rs ws lo hi (trM rt) rest (if b then ((done.filter fun k => goG rs (xOf ws lo) (xOf ws (k + 1)) (xOf ws hi) && (opn rs ws lo (k + 1) && opn rs ws (k + 1) hi)).map (fun k : Nat => PyData.int (k : Int))) ++ [.int (a : Int)] else (done.filter fun k => goG rs (xOf ws lo) (xOf ws (k + 1)) (xOf ws hi) && (opn rs ws lo (k + 1) && opn rs ws (k + 1) hi)).map (fun k : Nat => PyData.int (k : Int))) [some (gapsM (wM ws) F2 (trM rt)), some (.im (.int ((lo : Int) - 1))), some (.im (.int ((hi : Int) - 1))), none] := by
      intro b hb'
      refine ⟨F2, done ++ [a], hF2, by rw [hd]; simp, ?_, rfl⟩
      rw [List.filter_append, List.map_append]
      cases b with
      | true => simp only [if_true, List.filter_cons, List.filter_nil, ← hb']; rfl
      | false => simp only [Bool.false_eq_true, if_false, List.filter_cons, List.filter_nil, ← hb']; simp
    cases g1 : goG rs (xOf ws lo) (xOf ws (a + 1)) (xOf ws hi) <;> cases g2 : opn rs ws lo (a + 1) <;> cases g3 : opn rs ws (a + 1) hi <;> rw [g1] at ic <;> rw [g2] at o1 <;> rw [g3] at o2 <;> rw [g1, g2, g3] at fin <;> simp [ec, ic, o1, o2, wipeE, imAt] <;> first | exact fin true rfl | exact fin false rfl
  · rintro ys e1 ⟨F1, done, hF1, hd, rfl, rfl⟩
    rw [List.append_nil] at hd
    subst hd
    refine ⟨?_, rfl, ?_⟩
    · rw [List.length_map]
      refine Nat.le_trans (List.length_filter_le _ _) ?_
      rw [List.length_range']
      omega
    · have ey : PyData.list ((roots rs ws lo hi).map (fun k : Nat => PyData.int (k : Int))) = plD (roots rs ws lo hi) := rfl
      show kStoP _ _ _ _ _ (PyData.list ((roots rs ws lo hi).map (fun k : Nat => PyData.int (k : Int)))) _
      rw [ey]
      simp [backE, es, backs_cons]
      exact ⟨F1, hF1, rfl⟩
end FDL

namespace FDL
open PySem L2 FD GP
theorem look_snocT {α : Type} {k k' : List Key} {v : α} : ∀ {l : List (List Key × α)}, lookK (l ++ [(k, v)]) k' = match lookK l k' with | some x => some x | none => if k = k' then some v else none
  | [] => by
    by_cases e : k = k'
    · rw [List.nil_append, lookK_pos e, if_pos e]; rfl
    · rw [List.nil_append, lookK_neg e, if_neg e]; rfl
  | p :: l => by
    by_cases e : p.1 = k'
    · rw [List.cons_append, lookK_pos e, lookK_pos e]
    · rw [List.cons_append, lookK_neg e, lookK_neg e, look_snocT]
structure InvG (rs : List Ru) (ws : List Nat) (P Q : Nat) (rt : Tr) (w low : Nat) : Prop where
  known : ∀ i j, P ≤ i → i < j → j ≤ Q → (j < i + w ∨ (j = i + w ∧ i < low)) → Knows rs ws rt i j
  only : ∀ i j, lookK rt (keyG i j) ≠ none → i + 2 ≤ j ∧ (j < i + w ∨ (j = i + w ∧ i < low))
  len : rt.length ≤ 122 * w + low
theorem InvG.zero {rs : List Ru} {ws : List Nat} {P Q : Nat} : InvG rs ws P Q [] 2 P := ⟨fun i j h1 h2 h3 h4 => .inl (by omega), fun i j h => absurd rfl h, Nat.zero_le _⟩
theorem InvG.step {rs : List Ru} {ws : List Nat} {P Q : Nat} {rt : Tr} {w low : Nat} (h : InvG rs ws P Q rt w low) (hw : 2 ≤ w) : InvG rs ws P Q (rt ++ [(keyG low (low + w), roots rs ws low (low + w))]) w (low + 1) := by
  refine ⟨fun i j h1 h2 h3 h4 => ?_, fun i j hn => ?_, by rw [List.length_append]; have := h.len; simp; omega⟩
  · by_cases e : i = low ∧ j = low + w
    · obtain ⟨rfl, rfl⟩ := e
      refine .inr ⟨by omega, ?_⟩
      have : lookK rt (keyG i (i + w)) = none := by
        cases q : lookK rt (keyG i (i + w)) with
        | none => rfl
        | some x =>
          have := h.only i (i + w) (by rw [q]; intro z; cases z)
          omega
      rw [look_snocT, this]
      simp
    · rcases h.known i j h1 h2 h3 (by omega) with z | ⟨z1, z2⟩
      · exact .inl z
      · refine .inr ⟨z1, ?_⟩
        rw [look_snocT, z2]
  · rw [look_snocT] at hn
    cases q : lookK rt (keyG i j) with
    | some x =>
      have := h.only i j (by rw [q]; intro z; cases z)
      omega
    | none =>
      rw [q] at hn
      dsimp only at hn
      by_cases e : keyG low (low + w) = keyG i j
      · obtain ⟨rfl, rfl⟩ := keyG_inj e
        omega
      · rw [if_neg e] at hn
        exact absurd rfl hn
theorem InvG.wide {rs : List Ru} {ws : List Nat} {P Q : Nat} {rt : Tr} {w : Nat} (h : InvG rs ws P Q rt w (Q - w + 1)) (hQ : Q ≤ 121) (hw : w ≤ Q) : InvG rs ws P Q rt (w + 1) P :=
  ⟨fun i j h1 h2 h3 h4 => h.known i j h1 h2 h3 (by omega), fun i j hn => by have := h.only i j hn; omega, by have := h.len; omega⟩
theorem InvG.none {rs : List Ru} {ws : List Nat} {P Q : Nat} {rt : Tr} {w low : Nat} (h : InvG rs ws P Q rt w low) : lookK rt (keyG low (low + w)) = none := by
  cases q : lookK rt (keyG low (low + w)) with
  | none => rfl
  | some x =>
    have := h.only low (low + w) (by rw [q]; intro z; cases z)
    omega
def trD (rt : Tr) : D := .dict ((rt.map fun p => (p.1, plD p.2)).map fun p => (.tuple (p.1.map keyD), p.2))
theorem tr_toD {rt : Tr} : (trM rt).toD = some (trD rt) := by
  show (imAll ((rt.map fun p => (p.1, M.im (plD p.2))).map (·.2))).map _ = _
  have e1 : (rt.map fun p => (p.1, M.im (plD p.2))).map (·.2) = rt.map fun p => M.im (plD p.2) := by rw [List.map_map]; rfl
  rw [e1, imAll_map]
  simp [trD, List.zip_map', List.map_map, Function.comp_def]
theorem tr_get {rt : Tr} {i j : Nat} : getDD ((rt.map fun p => (p.1, plD p.2)).map fun p => (.tuple (p.1.map keyD), p.2)) (.tuple [.int ((i : Int) - 1), .int ((j : Int) - 1)]) = some ((lookK rt (keyG i j)).map plD) := by
  show (dictT _).map (fun x => lookK x (keyG i j)) = _
  rw [dictT_of, Option.map_some, look_map]
theorem nin_tr {rt : Tr} {i j : Nat} : ninPD (.tuple [.int ((i : Int) - 1), .int ((j : Int) - 1)]) (trD rt) = some (.bool (lookK rt (keyG i j)).isNone) := by
  show (getDD _ _).map _ = _
  rw [tr_get]
  cases lookK rt (keyG i j) <;> rfl
theorem rng_m1 {i j : Int} {lo n : Nat} (hi : i = (lo : Int) - 1) (hj : j = (lo : Int) - 1 + n) (hb : lo + n ≤ 1000) : rng2 [.int i, .int j] = some ((List.range' lo n).map fun k : Nat => PyData.int ((k : Int) - 1)) := by
  subst hi hj
  have h1 : (small ((lo : Int) - 1) && small ((lo : Int) - 1 + n)) = true := by
    unfold small
    simp
    omega
  show (if (small ((lo : Int) - 1) && small ((lo : Int) - 1 + n)) = true then some (rngDs ((lo : Int) - 1) ((lo : Int) - 1 + n)) else none) = _
  rw [if_pos h1]
  refine congrArg some ?_
  unfold rngDs
  rw [show ((lo : Int) - 1 + n - ((lo : Int) - 1)).toNat = n by omega, List.range'_eq_map_range, List.map_map]
  refine List.map_congr_left fun k _ => ?_
  show PyData.int ((lo : Int) - 1 + (k : Int)) = PyData.int (((lo + k : Nat) : Int) - 1)
  rw [Int.natCast_add]
  congr 1
  omega
theorem range_at {s n a : Nat} {done rest : List Nat} (h : List.range' s n = done ++ a :: rest) : a = s + done.length ∧ done.length < n := by
  have hl := congrArg List.length h
  simp at hl
  have h1 : (List.range' s n)[done.length]? = some a := by rw [h]; simp
  rw [List.getElem?_range' (by omega)] at h1
  simp at h1
  omega
end FDL

namespace FDL
open PySem L2 FD GP
def IWide (rs : List Ru) (ws : List Nat) (P Q : Nat) (done : List Nat) (e : FD.Env) : Prop :=
  ∃ F rt x3 x4, FitsAt rs F ∧ InvG rs ws P Q rt (2 + done.length) P ∧ e = [some (gapsM (wM ws) F (trM rt)), some (.im (.int ((P : Int) - 1))), some (.im (.int ((Q : Int) - 1))), x3, x4]
def ILow (rs : List Ru) (ws : List Nat) (P Q w : Nat) (done : List Nat) (e : FD.Env) : Prop :=
  ∃ F rt x4, FitsAt rs F ∧ InvG rs ws P Q rt w (P + done.length) ∧ e = [some (gapsM (wM ws) F (trM rt)), some (.im (.int ((P : Int) - 1))), some (.im (.int ((Q : Int) - 1))), some (.im (.int (w : Int))), x4]
theorem within_at {ws : List Nat} {rs : List Ru} {F : M} {P Q : Nat} (hw : okW ws) (hb : okBo rs) (hF : FitsAt rs F) (h1 : P < Q) (h2 : Q ≤ ws.length + 1) :
    ∃ F' rt, FitsAt rs F' ∧ Knows rs ws rt P Q ∧ (Q = P + 1 → lookK rt (keyG P Q) = none) ∧ fGaps_look_within [gapsM (wM ws) F (trM []), .im (.int ((P : Int) - 1)), .im (.int ((Q : Int) - 1))] = .ok (.im .none) [gapsM (wM ws) F' (trM rt), .im (.int ((P : Int) - 1)), .im (.int ((Q : Int) - 1))] := by
  have hwl := hw.2
  have sb : ∀ a b : Int, subD (.int a) (.int b) = some (.int (a - b)) := fun _ _ => rfl
  suffices hs : wpR (fGaps_look_within [gapsM (wM ws) F (trM []), .im (.int ((P : Int) - 1)), .im (.int ((Q : Int) - 1))]) fun x ms => ∃ F' rt, FitsAt rs F' ∧ Knows rs ws rt P Q ∧ (Q = P + 1 → lookK rt (keyG P Q) = none) ∧ x = .im .none ∧ ms = [gapsM (wM ws) F' (trM rt), .im (.int ((P : Int) - 1)), .im (.int ((Q : Int) - 1))] by
    obtain ⟨x, ms, e, F', rt, k1, k2, k3, rfl, rfl⟩ := wpR_ex hs
    exact ⟨F', rt, k1, k2, k3, e⟩
  unfold fGaps_look_within
  refine wpR_def rfl ?_
  have er := rng_at (i := 2) (j := (Q : Int) - 1 - ((P : Int) - 1) + 1) (lo := 2) (n := Q - P - 1) rfl (by omega) (by omega)
  simp only [gGaps_look_within, args0, List.map_cons, List.map_nil, List.length_cons, List.length_nil, List.replicate, List.cons_append, List.nil_append, wp_forS, wp_itA, wp_consA, wp_bin, wp_var, wp_ret, wp_nilA, List.getElem?_cons_zero, List.getElem?_cons_succ, kVar_im, kBin1_at, kBin2_at, kCons1_at, kCons2_at, kItA_at, addD, sb, wpo_some, er]
  refine for_inv (em := fun k : Nat => PyData.int (k : Int)) (IWide rs ws P Q) ⟨F, [], none, none, hF, InvG.zero, rfl⟩ ?_ ?_
  · rintro done w rest e hd ⟨F1, rt, x3, x4, hF1, hI, rfl⟩
    obtain ⟨ew, hwn⟩ := range_at hd
    have hwQ : w ≤ Q - P := by omega
    have er2 := rng_m1 (i := (P : Int) - 1) (j := (Q : Int) - 1 - (w : Int) + 1) (lo := P) (n := Q - w - P + 1) rfl (by omega) (by omega)
    rw [← ew] at hI
    simp only [wp_gN, List.length_cons, List.length_nil, List.set_cons_succ, List.set_cons_zero, kBody_at, wp_forS, wp_itA, wp_consA, wp_bin, wp_var, wp_ret, wp_nilA, List.getElem?_cons_zero, List.getElem?_cons_succ, kVar_im, kBin1_at, kBin2_at, kCons1_at, kCons2_at, kItA_at, addD, sb, wpo_some, er2]
    refine ⟨by decide, ?_⟩
    refine for_inv (em := fun k : Nat => PyData.int ((k : Int) - 1)) (ILow rs ws P Q w) ⟨F1, rt, _, hF1, hI, rfl⟩ ?_ ?_
    · rintro d2 low rest2 e hd2 ⟨F2, rt2, x4', hF2, hI2, rfl⟩
      obtain ⟨el, hln⟩ := range_at hd2
      rw [← el] at hI2
      have hn := hI2.none
      have hlen := hI2.len
      obtain ⟨F3, hF3, e3⟩ := look_at (lo := low) (hi := low + w) hw hb hF2 (by omega) (by omega) hn (by omega) fun k a b => ⟨hI2.known low k (by omega) a (by omega) (.inl (by omega)), hI2.known k (low + w) (by omega) b (by omega) (.inl (by omega))⟩
      have en := nin_tr (rt := rt2) (i := low) (j := low + w)
      rw [hn] at en
      have ea : (low : Int) - 1 + (w : Int) = ((low + w : Nat) : Int) - 1 := by omega
      rw [← ea] at en e3
      have hI3 := hI2.step (by omega)
      simp [tr_toD, en, e3]
      exact ⟨F3, _, _, hF3, by rw [List.length_append, List.length_singleton, ← Nat.add_assoc, ← el]; exact hI3, rfl⟩
    · rintro e ⟨F2, rt2, x4', hF2, hI2, rfl⟩
      simp only [kTurn_nxt]
      refine ⟨F2, rt2, _, _, hF2, ?_, rfl⟩
      rw [List.length_range'] at hI2
      rw [show P + (Q - w - P + 1) = Q - w + 1 by omega] at hI2
      rw [List.length_append, List.length_singleton, ← Nat.add_assoc, ← ew]
      exact hI2.wide (by omega) (by omega)
  · rintro e ⟨F1, rt, x3, x4, hF1, hI, rfl⟩
    rw [List.length_range'] at hI
    have hk : Knows rs ws rt P Q := hI.known P Q (Nat.le_refl _) h1 (Nat.le_refl _) (.inl (by omega))
    have hz : Q = P + 1 → lookK rt (keyG P Q) = none := fun e => by
      cases q : lookK rt (keyG P Q) with
      | none => rfl
      | some x =>
        have := hI.only P Q (by rw [q]; intro z; cases z)
        omega
    simp [backs_cons]
    exact ⟨F1, hF1, rt, hk, hz, rfl⟩
end FDL

namespace FDL
open PySem L2 FD GP
/-- the gap's sides: P, Q counted from the first end -/
structure GapOk (ws : List Nat) (P Q : Nat) : Prop where
  lt : P < Q
  le : Q ≤ ws.length + 1
theorem all_at {ws : List Nat} {rs : List Ru} {P Q : Nat} (hw : okW ws) (hb : okBo rs) (g : GapOk ws P Q) : fneed_all [.im (.str (wd ws)), .im (boD rs), .im (.int ((P : Int) - 1)), .im (.int ((Q : Int) - 1))] = .ok (.im .none) [.im (.str (wd ws)), .im (boD rs), .im (.int ((P : Int) - 1)), .im (.int ((Q : Int) - 1))] := by
  have h1 := g.lt
  have h2 := g.le
  exact need_all_at hw hb (by omega) (by omega) (by omega) (by omega)
theorem made_at {rs : List Ru} (hb : okBo rs) : ∃ F, FitsAt rs F ∧ fFits___init__ [.ob "Fits" [], .im (boD rs)] = .ok (.im .none) [F, .im (boD rs)] := by
  obtain ⟨kms, h1, h2⟩ := fits_init_at hb
  exact ⟨_, ⟨.dk kms, [], rfl, .inl ⟨kms, h1, rfl⟩, ⟨fun p hp => (by cases hp), List.nodup_nil⟩⟩, h2⟩
theorem gaps_within_at {ws : List Nat} {rs : List Ru} {P Q : Nat} (hw : okW ws) (hb : okBo rs) (g : GapOk ws P Q) :
    ∃ F rt, FitsAt rs F ∧ Knows rs ws rt P Q ∧ (Q = P + 1 → lookK rt (keyG P Q) = none) ∧ fgaps_within [.im (.str (wd ws)), .im (boD rs), .im (.int ((P : Int) - 1)), .im (.int ((Q : Int) - 1))] = .ok (gapsM (wM ws) F (trM rt)) [.im (.str (wd ws)), .im (boD rs), .im (.int ((P : Int) - 1)), .im (.int ((Q : Int) - 1))] := by
  obtain ⟨F0, hF0, e0⟩ := made_at hb
  have e1 := all_at hw hb g
  have e2 := gaps_init_at hw.2 hF0
  obtain ⟨F, rt, hF, hk, hz, e3⟩ := within_at hw hb hF0 g.lt g.le
  refine ⟨F, rt, hF, hk, hz, ?_⟩
  have e4 : trM [] = .dt [] := rfl
  rw [e4] at e3
  apply wpR_eq
  unfold fgaps_within
  refine wpR_def rfl ?_
  simp [ggaps_within, args0, e0, e1, e2, e3]
theorem clears_at {ws : List Nat} {rs : List Ru} {P Q : Nat} (hw : okW ws) (hb : okBo rs) (g : GapOk ws P Q) : fclears [.im (.str (wd ws)), .im (boD rs), .im (.int ((P : Int) - 1)), .im (.int ((Q : Int) - 1))] = .ok (.im (.bool (opn rs ws P Q))) [.im (.str (wd ws)), .im (boD rs), .im (.int ((P : Int) - 1)), .im (.int ((Q : Int) - 1))] := by
  obtain ⟨F, rt, hF, hk, hz, e1⟩ := gaps_within_at hw hb g
  have hl := hw.2
  have hq := g.le
  have e2 := is_open_at (F := F) (by omega) hk
  apply wpR_eq
  unfold fclears
  refine wpR_def rfl ?_
  simp [gclears, args0, e1, e2]
/-- what may go last -/
noncomputable def lasts (rs : List Ru) (ws : List Nat) (P Q : Nat) : List Nat := if Q = P + 1 then [] else roots rs ws P Q
theorem may_last_at {ws : List Nat} {rs : List Ru} {P Q : Nat} (hw : okW ws) (hb : okBo rs) (g : GapOk ws P Q) : fmay_last [.im (.str (wd ws)), .im (boD rs), .im (.int ((P : Int) - 1)), .im (.int ((Q : Int) - 1))] = .ok (.im (.tuple ((roots rs ws P Q).map fun k : Nat => PyData.int (k : Int)))) [.im (.str (wd ws)), .im (boD rs), .im (.int ((P : Int) - 1)), .im (.int ((Q : Int) - 1))] := by
  obtain ⟨F, rt, hF, hk, hz, e1⟩ := gaps_within_at hw hb g
  have hl := hw.2
  have hq := g.le
  have hp := g.lt
  have eg : (lookK rt (keyG P Q)).map plD = none ∧ roots rs ws P Q = [] ∨ (lookK rt (keyG P Q)).map plD = some (plD (roots rs ws P Q)) := by
    rcases hk with z | ⟨_, z⟩
    · refine .inl ⟨by rw [hz z]; rfl, ?_⟩
      unfold roots
      rw [z, show P + 1 - P - 1 = 0 by omega]
      rfl
    · exact .inr (by rw [z]; rfl)
  have e2 : (getDD ((rt.map fun p => (p.1, plD p.2)).map fun p => (.tuple (p.1.map keyD), p.2)) (.tuple [.int ((P : Int) - 1), .int ((Q : Int) - 1)])).map (fun o => o.getD (.list [])) = some (plD (roots rs ws P Q)) := by
    rw [tr_get]
    rcases eg with ⟨z1, z2⟩ | z
    · rw [z1, z2]; rfl
    · rw [z]; rfl
  generalize hk : ((rt.map fun p => (p.1, plD p.2)).map fun p => (PyData.tuple (p.1.map keyD), p.2)) = kvs at e2
  have e3 : (trM rt).toD = some (.dict kvs) := by rw [tr_toD]; unfold trD; rw [hk]
  apply wpR_eq
  unfold fmay_last
  refine wpR_def rfl ?_
  simp [gmay_last, args0, e1, e3, e2, plD, tupleD]
end FDL

namespace FDL
open PySem L2 FD GP
/-- what may go first -/
def firsts (rs : List Ru) (ws : List Nat) (P Q : Nat) : List Nat := (List.range' P (Q - P - 1)).filter fun k => goG rs (xOf ws k) (xOf ws (k + 1)) (xOf ws (k + 2))
def IFirst (rs : List Ru) (ws : List Nat) (P Q : Nat) (rest : List Nat) (ys : List D) (e : FD.Env) : Prop :=
  ∃ F done, FitsAt rs F ∧ List.range' P (Q - P - 1) = done ++ rest ∧ ys = (done.filter fun k => goG rs (xOf ws k) (xOf ws (k + 1)) (xOf ws (k + 2))).map (fun k : Nat => PyData.int (k : Int)) ∧ e = [some (.im (.str (wd ws))), some (.im (boD rs)), some (.im (.int ((P : Int) - 1))), some (.im (.int ((Q : Int) - 1))), some (gapsM (wM ws) F (.dt [])), none]
theorem may_first_at {ws : List Nat} {rs : List Ru} {P Q : Nat} (hw : okW ws) (hb : okBo rs) (g : GapOk ws P Q) : fmay_first [.im (.str (wd ws)), .im (boD rs), .im (.int ((P : Int) - 1)), .im (.int ((Q : Int) - 1))] = .ok (.im (.tuple ((firsts rs ws P Q).map fun k : Nat => PyData.int (k : Int)))) [.im (.str (wd ws)), .im (boD rs), .im (.int ((P : Int) - 1)), .im (.int ((Q : Int) - 1))] := by
  have hwl := hw.2
  have h1 := g.lt
  have h2 := g.le
  obtain ⟨F0, hF0, e0⟩ := made_at hb
  have e1 := all_at hw hb g
  have e2 := gaps_init_at hw.2 hF0
  have er := rng_at (i := (P : Int) - 1 + 1) (j := (Q : Int) - 1) (lo := P) (n := Q - P - 1) (by omega) (by omega) (by omega)
  have ep : (P : Int) - 1 + 1 = (P : Int) := by omega
  apply wpR_eq
  unfold fmay_first
  refine wpR_def rfl ?_
  simp [gmay_first, args0, e0, e1, e2, -Int.sub_add_cancel]
  rw [er, wpo_some]
  refine comp_inv (IFirst rs ws P Q) rfl ⟨F0, [], hF0, rfl, rfl, rfl⟩ ?_ ?_
  · rintro a rest ys e ⟨F1, done, hF1, hd, rfl, rfl⟩
    have ha : P ≤ a ∧ a < P + (Q - P - 1) := by
      have : a ∈ List.range' P (Q - P - 1) := by rw [hd]; simp
      rwa [List.mem_range'_1] at this
    obtain ⟨F2, hF2, ec⟩ := gaps_cost_at (R := .dt []) (P := a) (k := a + 1) (Q := a + 2) hw hb hF1 (by omega) (by omega) (by omega)
    have ea : (((a + 1 : Nat) : Int) - 1) = (a : Int) := by omega
    have ea2 : (((a + 2 : Nat) : Int) - 1) = (a : Int) + 1 := by omega
    rw [ea, ea2] at ec
    have ic : isnD (optD (cost rs (xOf ws a) (xOf ws (a + 1)) (xOf ws (a + 2)))) .none = some (.bool (goG rs (xOf ws a) (xOf ws (a + 1)) (xOf ws (a + 2)))) := isn_opt
    have fin : ∀ b : Bool, b = goG rs (xOf ws a) (xOf ws (a + 1)) (xOf ws (a + 2)) → IFirst rs ws P Q rest (if b then ((done.filter fun k => goG rs (xOf ws k) (xOf ws (k + 1)) (xOf ws (k + 2))).map (fun k : Nat => PyData.int (k : Int))) ++ [.int (a : Int)] else (done.filter fun k => goG rs (xOf ws k) (xOf ws (k + 1)) (xOf ws (k + 2))).map (fun k : Nat => PyData.int (k : Int))) [some (.im (.str (wd ws))), some (.im (boD rs)), some (.im (.int ((P : Int) - 1))), some (.im (.int ((Q : Int) - 1))), some (gapsM (wM ws) F2 (.dt [])), none] := by
      intro b hb'
      refine ⟨F2, done ++ [a], hF2, by rw [hd]; simp, ?_, rfl⟩
      rw [List.filter_append, List.map_append]
      cases b with
      | true => simp only [if_true, List.filter_cons, List.filter_nil, ← hb']; rfl
      | false => simp only [Bool.false_eq_true, if_false, List.filter_cons, List.filter_nil, ← hb']; simp
    cases g1 : goG rs (xOf ws a) (xOf ws (a + 1)) (xOf ws (a + 2)) <;> rw [g1] at ic <;> rw [g1] at fin <;> simp [ec, ic, wipeE, imAt] <;> first | exact fin true rfl | exact fin false rfl
  · rintro ys e1 ⟨F1, done, hF1, hd, rfl, rfl⟩
    rw [List.append_nil] at hd
    subst hd
    refine ⟨?_, rfl, ?_⟩
    · rw [List.length_map]
      refine Nat.le_trans (List.length_filter_le _ _) ?_
      rw [List.length_range']
      omega
    · simp [backE, tupleD, firsts]
/-! ### the law's own look -/
theorem law_cost_at {rs : List Ru} {a l b : Nat} (hb : okBo rs) : f_law_cost [.im (boD rs), .im (.str (sg a)), .im (.str (sg l)), .im (.str (sg b))] = .ok (.im (optD (cost rs a l b))) [.im (boD rs), .im (.str (sg a)), .im (.str (sg l)), .im (.str (sg b))] := by
  have hl := hb.2
  apply wpR_eq
  unfold f_law_cost
  refine wpR_def rfl ?_
  simp [g_law_cost, args0, boD, itX]
  refine comp_all (em := ruD) (fun r => fitR r a l b) (fun r => .int r.p) rfl rfl rfl (by omega) (fun r hr => ?_) ?_
  · unfold fitR
    cases h0 : (r.l == l) <;> cases h1 : (a == r.a || 42 == r.a) <;> cases h2 : (b == r.b || 42 == r.b) <;> simp [ruD, star_sg, h0, h1, h2, wipeE, imAt]
  · have em := minDf_ints ((rs.filter fun r => fitR r a l b).map (·.p))
    have ec : minI ((rs.filter fun r => fitR r a l b).map (·.p)) = cost rs a l b := rfl
    rw [ec] at em
    rw [show ((rs.filter fun r => fitR r a l b).map fun r => PyData.int r.p) = ((rs.filter fun r => fitR r a l b).map (·.p)).map PyData.int by rw [List.map_map]; rfl]
    generalize (rs.filter fun r => fitR r a l b).map (·.p) = ns at em ⊢
    simp [em]
theorem lt0 {i : Nat} : ltI (.int ((i : Int) - 1)) (.int 0) = some (.bool (decide ((i : Int) - 1 < 0))) := rfl
theorem law_at_at {ws : List Nat} {i : Nat} (hw : okW ws) (hi : i < ws.length + 2) : f_law_at [.im (.str (wd ws)), .im (.int ((i : Int) - 1))] = .ok (.im (.str (sg (xOf ws i)))) [.im (.str (wd ws)), .im (.int ((i : Int) - 1))] := by
  have hl := hw.2
  have e0 := len_wd (ws := ws) (by omega)
  apply wpR_eq
  unfold f_law_at
  refine wpR_def rfl ?_
  cases i with
  | zero =>
    have ex : xOf ws 0 = 60 := rfl
    have e1 : (("<" : Str)) = sg 60 := rfl
    simp [g_law_at, args0, ex, e1]
  | succ k =>
    have ek : (((k + 1 : Nat) : Int) - 1) = (k : Int) := by omega
    rw [ek]
    have n0 : ¬ ((k : Int) < 0) := by omega
    by_cases hk : k < ws.length
    · have ex : xOf ws (k + 1) = ws.getD k 0 := by
        unfold xOf ext
        rw [List.getD_cons_succ, List.getD_eq_getElem?_getD, List.getElem?_append_left hk, ← List.getD_eq_getElem?_getD]
      have e2 : ixA (.str (wd ws)) (.int (k : Int)) = some (.str (sg (xOf ws (k + 1)))) := by
        show (if few (wd ws).length = true then (L2.atI (wd ws).cps.toList (k : Int)).map (fun c => PyData.str ⟨#[c]⟩) else none) = _
        rw [wd_len, if_pos (few_of (by omega))]
        show (L2.atI ws (k : Int)).map _ = _
        rw [atI_nat hk, List.getElem?_eq_getElem hk, ex, List.getD_eq_getElem?_getD, List.getElem?_eq_getElem hk]
        rfl
      have n1 : ¬ ((ws.length : Int) ≤ (k : Int)) := by omega
      simp [g_law_at, args0, n0, e0, n1, e2]
    · have ek2 : k = ws.length := by omega
      subst ek2
      have ex : xOf ws (ws.length + 1) = 62 := by
        unfold xOf ext
        rw [List.getD_cons_succ, List.getD_eq_getElem?_getD, List.getElem?_append_right (Nat.le_refl _)]
        simp
      have e1 : ((">" : Str)) = sg 62 := rfl
      simp [g_law_at, args0, n0, e0, ex, e1]
theorem law_goes_at {ws : List Nat} {rs : List Ru} {P k Q : Nat} (hw : okW ws) (hb : okBo rs) (hP : P < ws.length + 2) (hk : k < ws.length + 2) (hQ : Q < ws.length + 2) :
    f_law_goes [.im (.str (wd ws)), .im (boD rs), .im (.int ((k : Int) - 1)), .im (.int ((P : Int) - 1)), .im (.int ((Q : Int) - 1))] = .ok (.im (.bool (goG rs (xOf ws P) (xOf ws k) (xOf ws Q)))) [.im (.str (wd ws)), .im (boD rs), .im (.int ((k : Int) - 1)), .im (.int ((P : Int) - 1)), .im (.int ((Q : Int) - 1))] := by
  have e1 := law_at_at hw hP
  have e2 := law_at_at hw hk
  have e3 := law_at_at hw hQ
  have e4 := law_cost_at (a := xOf ws P) (l := xOf ws k) (b := xOf ws Q) hb
  have e5 : isnD (optD (cost rs (xOf ws P) (xOf ws k) (xOf ws Q))) .none = some (.bool (goG rs (xOf ws P) (xOf ws k) (xOf ws Q))) := isn_opt
  apply wpR_eq
  unfold f_law_goes
  refine wpR_def rfl ?_
  simp [g_law_goes, args0, e1, e2, e3, e4, e5]
end FDL

namespace FDL
open PySem L2 FD GP
/-! ### a letter out -/
theorem x_erase {ws : List Nat} {k i : Nat} (hk : k < ws.length) : xOf (ws.eraseIdx k) i = del (xOf ws) (k + 1) i := by
  unfold xOf ext del
  simp only [List.getD_eq_getElem?_getD]
  cases i with
  | zero => simp
  | succ i =>
    rw [List.getElem?_cons_succ, List.getElem?_cons_succ]
    by_cases h : i < k
    · rw [if_pos (by omega), List.getElem?_append_left (by rw [List.length_eraseIdx_of_lt hk]; omega), List.getElem?_append_left (by omega), List.getElem?_eraseIdx_of_lt h]
    · rw [if_neg (by omega), List.getElem?_cons_succ]
      by_cases h2 : i < ws.length - 1
      · rw [List.getElem?_append_left (by rw [List.length_eraseIdx_of_lt hk]; omega), List.getElem?_append_left (by omega), List.getElem?_eraseIdx_of_ge (by omega)]
      · rw [List.getElem?_append_right (by rw [List.length_eraseIdx_of_lt hk]; omega), List.getElem?_append_right (by omega), List.length_eraseIdx_of_lt hk, show i - (ws.length - 1) = i + 1 - ws.length by omega]
theorem okW_erase {ws : List Nat} {k : Nat} (h : okW ws) : okW (ws.eraseIdx k) := ⟨fun c hc => h.1 c (List.mem_of_mem_eraseIdx hc), Nat.le_trans (List.length_eraseIdx_le _ _) h.2⟩
/-- some first strike leaves what clears, just where the gap clears -/
theorem any_first {rs : List Ru} {ws : List Nat} {P Q : Nat} (h1 : P + 1 < Q) (h2 : Q ≤ ws.length + 1) : ((firsts rs ws P Q).any fun k => opn rs (ws.eraseIdx k) P (Q - 1)) = opn rs ws P Q := by
  rw [Bool.eq_iff_iff, List.any_eq_true, opn_iff, op_first h1]
  constructor
  · rintro ⟨k, hk, ho⟩
    obtain ⟨a1, a2⟩ := List.mem_filter.mp hk
    rw [List.mem_range'_1] at a1
    refine ⟨k + 1, by omega, by omega, a2, ?_⟩
    have := opn_iff.mp ho
    rw [show xOf (ws.eraseIdx k) = del (xOf ws) (k + 1) from funext fun i => x_erase (by omega)] at this
    exact this
  · rintro ⟨k, b1, b2, b3, b4⟩
    refine ⟨k - 1, List.mem_filter.mpr ⟨List.mem_range'_1.mpr (by omega), ?_⟩, ?_⟩
    · rw [show k - 1 + 1 = k by omega, show k - 1 + 2 = k + 1 by omega]
      exact b3
    · rw [opn_iff, show xOf (ws.eraseIdx (k - 1)) = del (xOf ws) (k - 1 + 1) from funext fun i => x_erase (by omega), show k - 1 + 1 = k by omega]
      exact b4
end FDL

namespace FDL
open PySem L2 FD GP
/-! ### cuts -/
theorem cut_hi {α : Type} (xs : List α) (n : Nat) : cutD xs none (some (n : Int)) = xs.take n := by
  unfold cutD
  rw [HT.sIx_nat]
  show (xs.drop 0).take (min n xs.length - 0) = _
  rw [List.drop_zero, Nat.sub_zero, List.take_eq_take_iff]
  omega
theorem cut_lo {α : Type} (xs : List α) (n : Nat) : cutD xs (some (n : Int)) none = xs.drop n := by
  unfold cutD
  rw [HT.sIx_nat]
  show (xs.drop (min n xs.length)).take (xs.length - min n xs.length) = _
  rw [List.take_of_length_le (by rw [List.length_drop]; exact Nat.le_refl _)]
  by_cases h : n ≤ xs.length
  · rw [Nat.min_eq_left h]
  · rw [Nat.min_eq_right (by omega), List.drop_length, List.drop_of_length_le (by omega)]
theorem cutS_wd (ws : List Nat) (lo hi : Option Int) : cutS (wd ws) lo hi = wd (cutD ws lo hi) := by
  unfold cutS
  rw [wd_len]
  rfl
theorem sl_hi {ws : List Nat} {n : Nat} (h : ws.length ≤ 1000) : slD (.str (wd ws)) none (some (n : Int)) = some (.str (wd (ws.take n))) := by
  show (if few (wd ws).length then some (PyData.str (cutS (wd ws) none (some (n : Int)))) else none) = _
  rw [wd_len, if_pos (few_le' (by omega)), cutS_wd, cut_hi]
theorem sl_lo {ws : List Nat} {n : Nat} (h : ws.length ≤ 1000) : slD (.str (wd ws)) (some (n : Int)) none = some (.str (wd (ws.drop n))) := by
  show (if few (wd ws).length then some (PyData.str (cutS (wd ws) (some (n : Int)) none)) else none) = _
  rw [wd_len, if_pos (few_le' (by omega)), cutS_wd, cut_lo]
theorem add_wd {a b : List Nat} (h : a.length + b.length ≤ 1000) : addD (.str (wd a)) (.str (wd b)) = some (.str (wd (a ++ b))) := by
  show (if few ((wd a).length + (wd b).length) then some (PyData.str (wd a ++ wd b)) else none) = _
  rw [wd_len, wd_len, if_pos (few_le' (by omega)), wd_app]
/-! ### lists made by times -/
def kRep (fb : EM D) (Q : D → FD.Env → Prop) (E : EX) : List D → FD.Env → Prop := fun ds e => ds.length ≤ 1000000 ∧ wp fb e (fun k e => wpo (match k with
  | .int k => if decide (-(2 ^ 63) ≤ k) && decide (k < 2 ^ 63) && few (ds.length * k.toNat) then some (PyData.list (repL ds k)) else none
  | _ => none) Q e) E
theorem wp_repE {fs : EM (List D)} {fb : EM D} {e : FD.Env} {Q : D → FD.Env → Prop} {E : EX} : wp (repE fs fb) e Q E = wp fs e (kRep fb Q E) E := by
  unfold repE
  rw [wp_bnd]
  congr
  funext ds e1
  unfold kRep
  by_cases h : ds.length ≤ 1000000
  · rw [if_pos (few_le' h), wp_bnd]
    rw [show (ds.length ≤ 1000000) = True from eq_true h, true_and]
    congr
    funext a e2
    exact wp_lif
  · have : few ds.length = false := by simp [few, h]
    rw [this]
    simp [h]
theorem kRep2 {Q : D → FD.Env → Prop} {E : EX} {e : FD.Env} {d : D} : kRep (FD.ret (.int 2)) Q E [d] e = Q (.list [d, d]) e := by
  unfold kRep
  rw [wp_ret]
  show (_ ∧ wpo (if (decide (-(2 ^ 63) ≤ (2 : Int)) && decide ((2 : Int) < 2 ^ 63) && few (1 * 2)) then some (PyData.list (repL [d] 2)) else none) Q e) = _
  rw [if_pos (by decide)]
  show ((1 : Nat) ≤ 1000000 ∧ Q (.list [d, d]) e) = _
  simp
/-! ### what is told twice -/
theorem gd_bool (b : Bool) : Gd 0 10 (.bool b) := by cases b <;> exact ⟨rfl, rfl, rfl, by decide, by decide⟩
theorem rep_two {ks : List Nat} (h1 : ∀ n ∈ ks, n < 1000) (h2 : ks.length ≤ 200) : ∃ x, reprD [.list [.tuple (ks.map fun k : Nat => PyData.int (k : Int)), .tuple (ks.map fun k : Nat => PyData.int (k : Int))]] = some (.str x) := by
  have g := gd_tup (k := 0) (W := 10) (ds := ks.map fun n => PyData.int (n : Nat)) fun d hd => by
    obtain ⟨n, hn, rfl⟩ := List.mem_map.mp hd
    exact gd_nat (h1 n hn)
  have g2 := gd_list (k := 1) (W := ks.length * 11) (ds := [.tuple (ks.map fun k : Nat => PyData.int (k : Int)), .tuple (ks.map fun k : Nat => PyData.int (k : Int))]) fun d hd => by
    simp only [List.mem_cons, List.not_mem_nil, or_false] at hd
    rcases hd with z | z
    · rw [z]; rw [List.length_map] at g; exact g
    · rw [z]; rw [List.length_map] at g; exact g
  refine ⟨_, rep_of g2 rfl (by decide) ?_⟩
  show 2 * (ks.length * 11 + 1) ≤ 2 ^ 20
  omega
theorem rep_bools (b c : Bool) : ∃ x, reprD [.list [.bool b, .bool c]] = some (.str x) := by
  cases b <;> cases c <;> exact ⟨_, rfl⟩
theorem bools_map (bs : List Bool) : boolsOf (bs.map PyData.bool) = some bs := by
  induction bs with
  | nil => rfl
  | cons b bs ih =>
    show (boolsOf (bs.map PyData.bool)).map (b :: ·) = _
    rw [ih]
    rfl
theorem any_bools {α : Type} (f : α → Bool) (as : List α) : anyD [.list (as.map fun a => PyData.bool (f a))] = some (.bool (as.any f)) := by
  show (boolsOf (as.map fun a => PyData.bool (f a))).map _ = _
  rw [show (as.map fun a => PyData.bool (f a)) = (as.map f).map PyData.bool by rw [List.map_map]; rfl, bools_map]
  show some (PyData.bool ((as.map f).any id)) = _
  rw [List.any_map]
  rfl
theorem all_bools {α : Type} (f : α → Bool) (as : List α) : allD [.list (as.map fun a => PyData.bool (f a))] = some (.bool (as.all f)) := by
  show (boolsOf (as.map fun a => PyData.bool (f a))).map _ = _
  rw [show (as.map fun a => PyData.bool (f a)) = (as.map f).map PyData.bool by rw [List.map_map]; rfl, bools_map]
  show some (PyData.bool ((as.map f).all id)) = _
  rw [List.all_map]
  rfl
end FDL

namespace FDL
open PySem L2 FD GP
/-! ### one gap looked at -/
theorem law_right_at {ws : List Nat} {rs : List Ru} {P Q : Nat} (hw : okW ws) (hb : okBo rs) (g : GapOk ws P Q) : f_law_right [.im (.str (wd ws)), .im (boD rs), .im (.int ((P : Int) - 1)), .im (.int ((Q : Int) - 1))] = .ok (.im (.bool true)) [.im (.str (wd ws)), .im (boD rs), .im (.int ((P : Int) - 1)), .im (.int ((Q : Int) - 1))] := by
  have hwl := hw.2
  have h1 := g.lt
  have h2 := g.le
  have er := rng_at (i := (P : Int) - 1 + 1) (j := (Q : Int) - 1) (lo := P) (n := Q - P - 1) (by omega) (by omega) (by omega)
  have em := may_first_at hw hb g
  have el := may_last_at hw hb g
  have ec := clears_at hw hb g
  have fl : ∀ k ∈ firsts rs ws P Q, P ≤ k ∧ k < P + (Q - P - 1) := fun k hk => by
    have := (List.mem_filter.mp hk).1
    rwa [List.mem_range'_1] at this
  have rl : ∀ k ∈ roots rs ws P Q, P ≤ k ∧ k < P + (Q - P - 1) := fun k hk => by
    have := (List.mem_filter.mp hk).1
    rwa [List.mem_range'_1] at this
  have fn : (firsts rs ws P Q).length ≤ 200 := by
    refine Nat.le_trans (List.length_filter_le _ _) ?_
    rw [List.length_range']; omega
  have rn : (roots rs ws P Q).length ≤ 200 := by
    refine Nat.le_trans (List.length_filter_le _ _) ?_
    rw [List.length_range']; omega
  obtain ⟨x1, r1⟩ := rep_two (ks := firsts rs ws P Q) (fun n hn => by have := fl n hn; omega) fn
  obtain ⟨x2, r2⟩ := rep_two (ks := roots rs ws P Q) (fun n hn => by have := rl n hn; omega) rn
  apply wpR_eq
  unfold f_law_right
  refine wpR_def rfl ?_
  simp [g_law_right, args0, -Int.sub_add_cancel]
  rw [er, wpo_some]
  refine comp_all (em := fun k : Nat => PyData.int (k : Int)) (fun k => goG rs (xOf ws k) (xOf ws (k + 1)) (xOf ws (k + 2))) (fun k => .int (k : Int)) rfl rfl rfl (by rw [List.length_range']; omega) (fun k hk => ?_) ?_
  · rw [List.mem_range'_1] at hk
    have e1 := law_goes_at (P := k) (k := k + 1) (Q := k + 2) hw hb (by omega) (by omega) (by omega)
    have ea : (((k + 1 : Nat) : Int) - 1) = (k : Int) := by omega
    have ea2 : (((k + 2 : Nat) : Int) - 1) = (k : Int) + 1 := by omega
    rw [ea, ea2] at e1
    simp [e1, wipeE, imAt]
  rw [show ((List.range' P (Q - P - 1)).filter fun k => goG rs (xOf ws k) (xOf ws (k + 1)) (xOf ws (k + 2))) = firsts rs ws P Q from rfl]
  simp [-Int.sub_add_cancel]
  rw [er, wpo_some]
  refine comp_all (em := fun k : Nat => PyData.int (k : Int)) (fun k => goG rs (xOf ws P) (xOf ws (k + 1)) (xOf ws Q)) (fun k => .int (k : Int)) rfl rfl rfl (by rw [List.length_range']; omega) (fun k hk => ?_) ?_
  · rw [List.mem_range'_1] at hk
    have e1 := law_goes_at (P := P) (k := k + 1) (Q := Q) hw hb (by omega) (by omega) (by omega)
    have ea : (((k + 1 : Nat) : Int) - 1) = (k : Int) := by omega
    rw [ea] at e1
    simp [e1, wipeE, imAt]
  simp [-Int.sub_add_cancel, itX]
  refine comp_all (em := fun k : Nat => PyData.int (k : Int)) (fun k => opn rs ws P (k + 1) && opn rs ws (k + 1) Q) (fun k => .int (k : Int)) rfl rfl rfl (Nat.le_trans (List.length_filter_le _ _) (by rw [List.length_range']; omega)) (fun k hk => ?_) ?_
  · have hk2 := (List.mem_filter.mp hk).1
    rw [List.mem_range'_1] at hk2
    have e1 := clears_at (P := P) (Q := k + 1) hw hb ⟨by omega, by omega⟩
    have e2 := clears_at (P := k + 1) (Q := Q) hw hb ⟨by omega, by omega⟩
    have ea : (((k + 1 : Nat) : Int) - 1) = (k : Int) := by omega
    rw [ea] at e1 e2
    cases g1 : opn rs ws P (k + 1) <;> rw [g1] at e1 <;> simp [e1, e2, wipeE, imAt]
  have hr : (((List.range' P (Q - P - 1)).filter fun k => goG rs (xOf ws P) (xOf ws (k + 1)) (xOf ws Q)).filter fun k => opn rs ws P (k + 1) && opn rs ws (k + 1) Q) = roots rs ws P Q := by
    unfold roots
    rw [List.filter_filter]
    congr 1
    funext k
    rw [Bool.and_comm]
  rw [hr]
  have ne := ne_nil (ks := roots rs ws P Q) (fun n hn => by have := rl n hn; omega)
  generalize hF : firsts rs ws P Q = Fs at *
  generalize hR : roots rs ws P Q = Rs at *
  simp [-Int.sub_add_cancel, em, el, pick, tupleD, wp_repE, kRep2, r1, r2]
  by_cases hq : Q = P + 1
  · have eb : ((Q : Int) - 1 == (P : Int) - 1 + 1) = true := by rw [beq_iff_eq]; omega
    have eo : opn rs ws P Q = true := by rw [opn_iff, hq]; exact Op.one _
    rw [eo] at ec
    rw [eb]
    simp [ec, isD]
  · have eb : ((Q : Int) - 1 == (P : Int) - 1 + 1) = false := by rw [beq_eq_false_iff_ne]; omega
    rw [eb]
    simp [-Int.sub_add_cancel, itX]
    refine comp_map (em := fun k : Nat => PyData.int (k : Int)) (fun k => .bool (opn rs (ws.eraseIdx k) P (Q - 1))) rfl rfl rfl (by omega) (fun k hk => ?_) ?_
    · have hk2 := fl k hk
      have hk3 : k < ws.length := by omega
      have hle := List.length_eraseIdx_of_lt hk3
      have e1 := sl_hi (ws := ws) (n := k) (by omega)
      have e2 := sl_lo (ws := ws) (n := k + 1) (by omega)
      have e3 := add_wd (a := ws.take k) (b := ws.drop (k + 1)) (by rw [List.length_take, List.length_drop]; omega)
      rw [← List.eraseIdx_eq_take_drop_succ] at e3
      have e4 := clears_at (P := P) (Q := Q - 1) (okW_erase (k := k) hw) hb ⟨by omega, by omega⟩
      rw [show (((Q - 1 : Nat) : Int) - 1) = (Q : Int) - 1 - 1 by omega] at e4
      rw [show (((k + 1 : Nat) : Int)) = (k : Int) + 1 by omega] at e2
      simp [e1, e2, e3, e4, wipeE, imAt, -Int.sub_add_cancel]
    · have ea := any_bools (fun k => opn rs (ws.eraseIdx k) P (Q - 1)) Fs
      have eany := any_first (rs := rs) (ws := ws) (P := P) (Q := Q) (by omega) (by omega)
      have en := roots_nil (rs := rs) (ws := ws) (lo := P) (hi := Q) (by omega)
      rw [hF] at eany
      rw [eany] at ea
      rw [hR] at en
      rw [en, Bool.not_not] at ne
      obtain ⟨x3, r3⟩ := rep_bools (opn rs ws P Q) (opn rs ws P Q)
      simp [ea, ec, ne, wp_repE, kRep2, r3]
end FDL

namespace FDL
open PySem L2 FD GP
/-! ### draws -/
theorem modD_int {i j : Int} (h : 0 < j) : modD (.int i) (.int j) = some (.int (i % j)) := by
  show (if decide (0 < j) then some (PyData.int (i % j)) else none) = _
  rw [if_pos (decide_eq_true h)]
theorem fdvD_int {i j : Int} (h : 0 < j) (h2 : j < 1073741824) : fdvD (.int i) (.int j) = some (.int (i / j)) := by
  show (if (decide (0 < j) && decide (j < 1073741824)) then some (PyData.int (i / j)) else none) = _
  rw [if_pos (by simp [h, h2])]
theorem mulD_r {i j : Int} (h1 : -(2 ^ 64) < j) (h2 : j < 2 ^ 64) : mulD (.int i) (.int j) = some (.int (i * j)) := by
  show (if ((decide (-(2 ^ 64) < i) && decide (i < 2 ^ 64)) || (decide (-(2 ^ 64) < j) && decide (j < 2 ^ 64))) then some (PyData.int (i * j)) else none) = _
  rw [if_pos (by rw [decide_eq_true h1, decide_eq_true h2]; simp)]
theorem powD_5 {i : Int} (h : i.natAbs < 2 ^ 64) : powD (.int i) (.int 5) = some (.int (i ^ 5)) := by
  show (if (decide (0 ≤ (5 : Int)) && decide ((5 : Int) ≤ 1000) && decide (i.natAbs < 2 ^ 64)) then some (PyData.int (i ^ 5)) else none) = _
  rw [if_pos (by rw [decide_eq_true h]; decide)]
theorem wp_ok {α : Type} {f : EM α} {e e' : FD.Env} {a : α} {Q : α → FD.Env → Prop} {E : EX} (h : f e = .ok a e') : wp f e Q E = Q a e' := by
  unfold wp
  rw [h]
def drM (cs : List Int) (a l : Int) : M := .dk [(.inr "cells", .im (.list (cs.map PyData.int))), (.inr "at", .im (.int a)), (.inr "left", .im (.int l))]
theorem dr_at {cs : List Int} {a l : Int} {r : FD.Env} : itemA 0 (.str "at") (some (drM cs a l) :: r) = some (.int a) := rfl
theorem dr_left {cs : List Int} {a l : Int} {r : FD.Env} : itemA 0 (.str "left") (some (drM cs a l) :: r) = some (.int l) := rfl
theorem dr_cells {cs : List Int} {a l : Int} {r : FD.Env} : itemA 0 (.str "cells") (some (drM cs a l) :: r) = some (.list (cs.map PyData.int)) := rfl
theorem dr_sat {cs : List Int} {a l v : Int} {r : FD.Env} {Q : FD.Flow → FD.Env → Prop} {E : EX} : wp (storeM 0 (.str "at") (.int v)) (some (drM cs a l) :: r) Q E = Q .nxt (some (drM cs v l) :: r) := wp_ok rfl
theorem dr_sleft {cs : List Int} {a l v : Int} {r : FD.Env} {Q : FD.Flow → FD.Env → Prop} {E : EX} : wp (storeM 0 (.str "left") (.int v)) (some (drM cs a l) :: r) Q E = Q .nxt (some (drM cs a v) :: r) := wp_ok rfl
theorem dr_has {cs : List Int} {a l : Int} {r : FD.Env} : has 0 (some (drM cs a l) :: r) = true := rfl
theorem ix_ints {cs : List Int} {i : Int} (h0 : 0 ≤ i) (h1 : i < cs.length) : ∃ c, ixA (.list (cs.map PyData.int)) (.int i) = some (.int c) := by
  obtain ⟨n, rfl⟩ := Int.eq_ofNat_of_zero_le h0
  refine ⟨cs.getD n 0, ?_⟩
  show L2.atI (cs.map PyData.int) (n : Int) = _
  rw [atI_nat (by rw [List.length_map]; omega), List.getElem?_map, List.getD_eq_getElem?_getD, List.getElem?_eq_getElem (by omega)]
  rfl
theorem take_wp {cs : List Int} {a l m : Int} {K : M → List M → Prop} (hc : 1 ≤ cs.length) (hm : 0 < m) (hm2 : m < 1073741824) (ha : 0 ≤ a) (ha2 : a < 900000)
    (h : ∀ r l', 0 ≤ r → r < m → K (.im (.int r)) [drM cs (a + 1) l', .im (.int m)]) : wpR (f_law_take [drM cs a l, .im (.int m)]) K := by
  unfold f_law_take
  refine wpR_def rfl ?_
  obtain ⟨b, hb⟩ : ∃ b, b = a + 1 := ⟨_, rfl⟩
  rw [← hb] at h
  have mm : ∀ i, modD (.int i) (.int m) = some (.int (i % m)) := fun i => modD_int hm
  by_cases hl : 0 < l
  · have hh := h (l % m) (l / m) (Int.emod_nonneg _ (by omega)) (Int.emod_lt_of_pos _ hm)
    have e1 := fdvD_int (i := l) hm hm2
    simp [g_law_take, args0, dr_at, dr_left, dr_sat, dr_sleft, dr_has, hl, ← hb, mm, e1, backs_cons, hh]
  · obtain ⟨x1, hx1, m1⟩ : ∃ x1, x1 = 7907 * b ∧ mulD (.int 7907) (.int b) = some (.int x1) := ⟨_, rfl, mulD_r (by omega) (by omega)⟩
    obtain ⟨x2, hx2, m2⟩ : ∃ x2, x2 = x1 * b ∧ mulD (.int x1) (.int b) = some (.int x2) := ⟨_, rfl, mulD_r (by omega) (by omega)⟩
    obtain ⟨x3, hx3, m3⟩ : ∃ x3, x3 = 104723 * b ∧ mulD (.int 104723) (.int b) = some (.int x3) := ⟨_, rfl, mulD_r (by omega) (by omega)⟩
    obtain ⟨x4, hx4, m4⟩ : ∃ x4, x4 = b % (cs.length : Int) ∧ modD (.int b) (.int (cs.length : Int)) = some (.int x4) := ⟨_, rfl, modD_int (by omega)⟩
    obtain ⟨x5, m5⟩ := ix_ints (cs := cs) (i := x4) (by rw [hx4]; exact Int.emod_nonneg _ (by omega)) (by rw [hx4]; exact Int.emod_lt_of_pos _ (by omega))
    obtain ⟨x6, hx6, m6⟩ : ∃ x6, x6 = x5 % 2147483629 ∧ modD (.int x5) (.int 2147483629) = some (.int x6) := ⟨_, rfl, modD_int (by decide)⟩
    have b6 : 0 ≤ x6 := by rw [hx6]; exact Int.emod_nonneg _ (by decide)
    have b6' : x6 < 2147483629 := by rw [hx6]; exact Int.emod_lt_of_pos _ (by decide)
    have b2 : 0 ≤ x2 := by rw [hx2, hx1]; exact Int.mul_nonneg (Int.mul_nonneg (by decide) (by omega)) (by omega)
    have b2' : x2 ≤ 7907 * 900000 * 900000 := by rw [hx2, hx1]; exact Int.mul_le_mul (by omega) (by omega) (by omega) (by omega)
    obtain ⟨x7, hx7⟩ : ∃ x7, x7 = x2 + x3 + 11 := ⟨_, rfl⟩
    obtain ⟨x8, hx8⟩ : ∃ x8, x8 = x6 + x7 := ⟨_, rfl⟩
    obtain ⟨x9, m9⟩ : ∃ x9, powD (.int x8) (.int 5) = some (.int x9) := ⟨_, powD_5 (by omega)⟩
    obtain ⟨y1, n1⟩ : ∃ x, modD (.int x9) (.int 2147483647) = some (.int x) := ⟨_, modD_int (by decide)⟩
    obtain ⟨y2, n2⟩ : ∃ x, mulD (.int y1) (.int 48271) = some (.int x) := ⟨_, mulD_r (by decide) (by decide)⟩
    obtain ⟨y3, n3⟩ : ∃ x, modD (.int y2) (.int 2147483629) = some (.int x) := ⟨_, modD_int (by decide)⟩
    obtain ⟨y4, n4⟩ : ∃ x, fdvD (.int y3) (.int 7) = some (.int x) := ⟨_, fdvD_int (by decide) (by decide)⟩
    have hh := h (y4 % m) l (Int.emod_nonneg _ (by omega)) (Int.emod_lt_of_pos _ hm)
    simp [g_law_take, args0, dr_at, dr_left, dr_cells, dr_sat, dr_sleft, dr_has, hl, ← hb, m1, m2, m3, m4, m5, m6, ← hx7, ← hx8, m9, n1, n2, n3, n4, mm, backs_cons, hh]
end FDL

namespace FDL
open PySem L2 FD GP
/-! ### texts put together -/
theorem strs_sg (cs : List Nat) : strsOf (cs.map fun c => PyData.str (sg c)) = some (cs.map sg) := by
  induction cs with
  | nil => rfl
  | cons c cs ih =>
    show (strsOf (cs.map fun c => PyData.str (sg c))).map (sg c :: ·) = _
    rw [ih]
    rfl
theorem join_sg : ∀ cs : List Nat, Str.join "" (cs.map sg) = wd cs
  | [] => rfl
  | [c] => rfl
  | c :: d :: cs => by
    have ih := join_sg (d :: cs)
    show sg c ++ "" ++ Str.join "" ((d :: cs).map sg) = _
    rw [ih]
    apply TL.ext_tl
    rw [TL.tl_append, TL.tl_append]
    simp [TL.tl, wd, sg]
    rfl
theorem joinD_sg {cs : List Nat} (h : cs.length ≤ 1000) : joinD "" (.list (cs.map fun c => PyData.str (sg c))) = some (.str (wd cs)) := by
  simp only [joinD, strs_sg]
  have e0 : ("" : Str).length = 0 := by decide
  have e1 : ((cs.map sg).map (·.length)).sum = cs.length := by
    rw [List.map_map]
    have : ∀ l : List Nat, (l.map ((fun s : Str => s.length) ∘ sg)).sum = l.length := by
      intro l
      induction l with
      | nil => rfl
      | cons c l ih => rw [List.map_cons, List.sum_cons, ih, List.length_cons]; show 1 + _ = _; omega
    exact this cs
  rw [e0, e1, if_pos (by omega)]
  show some (PyData.str (Builtin.Str.glued "" (cs.map sg))) = _
  rw [StrLaws.glued_eq_join, join_sg]
/-- a sign of a text -/
theorem ix_wd {ws : List Nat} {i : Int} (hl : ws.length ≤ 1000) (h0 : 0 ≤ i) (h1 : i < ws.length) : ∃ c ∈ ws, ixA (.str (wd ws)) (.int i) = some (.str (sg c)) := by
  obtain ⟨n, rfl⟩ := Int.eq_ofNat_of_zero_le h0
  have hn : n < ws.length := by omega
  refine ⟨ws[n], List.getElem_mem hn, ?_⟩
  show (if few (wd ws).length = true then (L2.atI (wd ws).cps.toList (n : Int)).map (fun c => PyData.str ⟨#[c]⟩) else none) = _
  rw [wd_len, if_pos (few_le' (by omega))]
  show (L2.atI ws (n : Int)).map _ = _
  rw [atI_nat hn, List.getElem?_eq_getElem hn]
  rfl
theorem abc_wd : ("abcdefghijklmnopqrstuvwxyz" : Str) = wd ((List.range 26).map (· + 97)) := rfl
theorem ix_abc {i : Int} (h0 : 0 ≤ i) (h1 : i < 26) : ixA (.str "abcdefghijklmnopqrstuvwxyz") (.int i) = some (.str (sg (i.toNat + 97))) := by
  obtain ⟨n, rfl⟩ := Int.eq_ofNat_of_zero_le h0
  have hn : n < ((List.range 26).map (· + 97)).length := by simp; omega
  rw [abc_wd]
  show (if few (wd ((List.range 26).map (· + 97))).length = true then (L2.atI (wd ((List.range 26).map (· + 97))).cps.toList (n : Int)).map (fun c => PyData.str ⟨#[c]⟩) else none) = _
  rw [wd_len, if_pos (few_le' (by simp))]
  show (L2.atI ((List.range 26).map (· + 97)) (n : Int)).map _ = _
  rw [atI_nat hn, List.getElem?_eq_getElem hn]
  simp
  rfl
theorem ix_step {r : Int} (h0 : 0 ≤ r) (h1 : r < 12) : ∃ t : Int, 0 ≤ t ∧ t ≤ 25 ∧ ixA (.list [.int 1, .int 3, .int 5, .int 7, .int 9, .int 11, .int 15, .int 17, .int 19, .int 21, .int 23, .int 25]) (.int r) = some (.int t) := by
  obtain ⟨n, rfl⟩ := Int.eq_ofNat_of_zero_le h0
  have hn : n < 12 := by omega
  match n, hn with
  | 0, _ => exact ⟨1, by decide, by decide, rfl⟩
  | 1, _ => exact ⟨3, by decide, by decide, rfl⟩
  | 2, _ => exact ⟨5, by decide, by decide, rfl⟩
  | 3, _ => exact ⟨7, by decide, by decide, rfl⟩
  | 4, _ => exact ⟨9, by decide, by decide, rfl⟩
  | 5, _ => exact ⟨11, by decide, by decide, rfl⟩
  | 6, _ => exact ⟨15, by decide, by decide, rfl⟩
  | 7, _ => exact ⟨17, by decide, by decide, rfl⟩
  | 8, _ => exact ⟨19, by decide, by decide, rfl⟩
  | 9, _ => exact ⟨21, by decide, by decide, rfl⟩
  | 10, _ => exact ⟨23, by decide, by decide, rfl⟩
  | 11, _ => exact ⟨25, by decide, by decide, rfl⟩
theorem rng1_nat {n : Nat} (h : n ≤ 1000000) : rng1 [.int (n : Nat)] = some ((List.range n).map fun k => PyData.int (k : Nat)) := by
  show (if small (n : Int) then some (rngDs 0 (n : Int)) else none) = _
  rw [if_pos (by simp [small]; omega)]
  congr 1
  unfold rngDs
  rw [Int.sub_zero, Int.toNat_natCast]
  refine List.map_congr_left fun k _ => ?_
  rw [Int.zero_add]
theorem letters_wp {cs : List Int} {a l : Int} {K : M → List M → Prop} (hc : 1 ≤ cs.length) (ha : 0 ≤ a) (ha2 : a < 800000)
    (h : ∀ l' (ls : List Nat), 2 ≤ ls.length → ls.length ≤ 4 → (∀ c ∈ ls, isLet c = true) → K (.im (.str (wd ls))) [drM cs (a + 3) l']) : wpR (f_law_letters [drM cs a l]) K := by
  unfold f_law_letters
  refine wpR_def rfl ?_
  simp [g_law_letters, args0]
  refine take_wp hc (by decide) (by decide) ha (by omega) fun r l1 hr0 hr1 => ?_
  obtain ⟨t, ht0, ht1, et⟩ := ix_step hr0 hr1
  simp [et]
  refine take_wp hc (by decide) (by decide) (by omega) (by omega) fun r2 l2 hr2 hr3 => ?_
  simp
  refine take_wp hc (by decide) (by decide) (by omega) (by omega) fun r3 l3 hr4 hr5 => ?_
  obtain ⟨n, hn⟩ := Int.eq_ofNat_of_zero_le (show 0 ≤ 2 + r3 by omega)
  have e1 := rng1_nat (n := n) (by omega)
  rw [← hn] at e1
  simp [e1]
  have hn2 : n ≤ 4 := by omega
  have hn3 : 2 ≤ n := by omega
  let code : Nat → Nat := fun k => ((r2 + t * (k : Int)) % 26).toNat + 97
  refine comp_map (em := fun k : Nat => PyData.int (k : Int)) (fun k => .str (sg (code k))) rfl rfl rfl (by rw [List.length_range]; omega) (fun k hk => ?_) ?_
  · rw [List.mem_range] at hk
    obtain ⟨x, hx, m1⟩ : ∃ x, x = t * (k : Int) ∧ mulD (.int t) (.int (k : Int)) = some (.int x) := ⟨_, rfl, mulD_r (by omega) (by omega)⟩
    obtain ⟨y, hy, m2⟩ : ∃ y, y = (r2 + x) % 26 ∧ modD (.int (r2 + x)) (.int 26) = some (.int y) := ⟨_, rfl, modD_int (by decide)⟩
    have e2 := ix_abc (i := y) (by rw [hy]; exact Int.emod_nonneg _ (by decide)) (by rw [hy]; exact Int.emod_lt_of_pos _ (by decide))
    rw [show code k = y.toNat + 97 by simp only [code]; rw [hy, hx]]
    simp [m1, m2, e2, wipeE, imAt]
  · have ej := joinD_sg (cs := (List.range n).map code) (by simp; omega)
    rw [List.map_map] at ej
    rw [show ((fun c => PyData.str (sg c)) ∘ code) = fun k => PyData.str (sg (code k)) from rfl] at ej
    have hh := h l3 ((List.range n).map code) (by simp; omega) (by simp; omega) (fun c hc => by
      obtain ⟨k, _, rfl⟩ := List.mem_map.mp hc
      have h1 : 0 ≤ (r2 + t * (k : Int)) % 26 := Int.emod_nonneg _ (by decide)
      have h2 : (r2 + t * (k : Int)) % 26 < 26 := Int.emod_lt_of_pos _ (by decide)
      simp only [isLet, code, Bool.and_eq_true, decide_eq_true_eq]
      omega)
    rw [show a + 3 = a + 1 + 1 + 1 by omega] at hh
    simp [ej, backs_cons, hh]
def IWord (cs : List Int) (a l1 : Int) (ls : List Nat) (m : Int) (n : Nat) (rest : List Nat) (ys : List D) (e : FD.Env) : Prop :=
  ∃ (ws : List Nat) (a' l' : Int), ys = ws.map (fun c => PyData.str (sg c)) ∧ rest.length ≤ n ∧ (∀ c ∈ ws, isLet c = true) ∧ ws.length + rest.length = n ∧ a + 1 ≤ a' ∧ a' = a + 1 + ws.length ∧ e = [some (drM cs a' l'), some (.im (.str (wd ls))), some (.im (.int m)), none]
theorem word_wp {cs : List Int} {a l m : Int} {ls : List Nat} {K : M → List M → Prop} (hc : 1 ≤ cs.length) (hl1 : 1 ≤ ls.length) (hl2 : ls.length ≤ 100) (hls : ∀ c ∈ ls, isLet c = true) (hm : 0 ≤ m) (hm2 : m ≤ 100) (ha : 0 ≤ a) (ha2 : a < 800000)
    (h : ∀ a' l' (ws : List Nat), okW ws → (ws.length : Int) ≤ m → a ≤ a' → a' ≤ a + 1 + m → K (.im (.str (wd ws))) [drM cs a' l', .im (.str (wd ls)), .im (.int m)]) : wpR (f_law_word [drM cs a l, .im (.str (wd ls)), .im (.int m)]) K := by
  unfold f_law_word
  refine wpR_def rfl ?_
  simp [g_law_word, args0]
  refine take_wp hc (by omega) (by omega) ha (by omega) fun r l1 hr0 hr1 => ?_
  obtain ⟨n, hn⟩ := Int.eq_ofNat_of_zero_le hr0
  have e1 := rng1_nat (n := n) (by omega)
  rw [← hn] at e1
  have e2 := len_wd (ws := ls) (by omega)
  simp [e1]
  refine comp_inv (IWord cs a l1 ls m n) rfl ⟨[], a + 1, l1, rfl, by simp, fun c hc => by simp at hc, by simp, by omega, by simp, rfl⟩ ?_ ?_
  · rintro k rest ys e ⟨ws, a', l', rfl, h1, h2, h3, h4, h5, rfl⟩
    rw [List.length_cons] at h3 h1
    simp
    rw [e2]
    simp
    refine take_wp hc (by omega) (by omega) (by omega) (by omega) fun r l2 hr2 hr3 => ?_
    obtain ⟨c, hc1, hc2⟩ := ix_wd (ws := ls) (by omega) hr2 hr3
    simp [hc2, wipeE, imAt]
    exact ⟨ws ++ [c], a' + 1, l2, by simp, by omega, fun x hx => by
      rcases List.mem_append.mp hx with hx | hx
      · exact h2 x hx
      · rw [List.mem_singleton.mp hx]; exact hls c hc1, by simp; omega, by omega, by simp; omega, rfl⟩
  · rintro ys e1 ⟨ws, a', l', rfl, h1, h2, h3, h4, h5, rfl⟩
    have ej := joinD_sg (cs := ws) (by simp at h3; omega)
    have hh := h a' l' ws ⟨h2, by simp at h3; omega⟩ (by simp at h3; omega) (by omega) (by omega)
    refine ⟨by simp at h3 ⊢; omega, rfl, ?_⟩
    simp [ej, backE, backs_cons, hh]
end FDL
namespace FDL
open PySem L2 FD GP
/-! ### a book drawn -/
def IBook (cs : List Int) (a : Int) (ls : List Nat) (m : Int) (done : List Nat) (e : FD.Env) : Prop :=
  ∃ (rs : List Ru) (a' l' : Int) (x4 x5 x6 x7 : Option M), (∀ r ∈ rs, okR r = true) ∧ rs.length = done.length ∧ a' = a + 1 + 6 * (done.length : Int) ∧ e = [some (drM cs a' l'), some (.im (.str (wd ls))), some (.im (.int m)), some (.ls (rs.map fun r => .im (ruD r))), x4, x5, x6, x7]
theorem add_ahead {ls : List Nat} (h : ls.length ≤ 100) (hls : ∀ c ∈ ls, isLet c = true) : ∃ w : List Nat, w.length = 2 * ls.length + 3 ∧ (∀ c ∈ w, okA c = true) ∧ addD (.str (wd (ls ++ ls))) (.str "<**") = some (.str (wd w)) := by
  refine ⟨ls ++ ls ++ [60, 42, 42], by simp; omega, fun c hc => ?_, add_wd (b := [60, 42, 42]) (by simp; omega)⟩
  simp at hc
  rcases hc with hc | hc | hc
  · simp [okA, hls c hc]
  · subst hc; rfl
  · subst hc; rfl
theorem add_behind {ls : List Nat} (h : ls.length ≤ 100) (hls : ∀ c ∈ ls, isLet c = true) : ∃ w : List Nat, w.length = 2 * ls.length + 3 ∧ (∀ c ∈ w, okB c = true) ∧ addD (.str (wd (ls ++ ls))) (.str ">**") = some (.str (wd w)) := by
  refine ⟨ls ++ ls ++ [62, 42, 42], by simp; omega, fun c hc => ?_, add_wd (b := [62, 42, 42]) (by simp; omega)⟩
  simp at hc
  rcases hc with hc | hc | hc
  · simp [okB, hls c hc]
  · subst hc; rfl
  · subst hc; rfl
theorem ls_toD {α : Type} {f : α → D} {as : List α} : (M.ls (as.map fun a => M.im (f a))).toD = some (.list (as.map f)) := by
  have : imAll (as.map fun a => M.im (f a)) = some (as.map f) := by
    induction as with
    | nil => rfl
    | cons a as ih =>
      show (imAll (as.map fun a => M.im (f a))).map (f a :: ·) = _
      rw [ih]
      rfl
  show (imAll (as.map fun a => M.im (f a))).map PyData.list = _
  rw [this]
  rfl
theorem ix_two {x y r : Int} (h0 : 0 ≤ r) (h1 : r < 4) : ∃ p, (p = x ∨ p = y) ∧ ixA (.list [.int x, .int y]) (.int (r / 3)) = some (.int p) := by
  by_cases h : r < 3
  · refine ⟨x, .inl rfl, ?_⟩
    rw [show r / 3 = 0 by omega]
    rfl
  · refine ⟨y, .inr rfl, ?_⟩
    rw [show r / 3 = 1 by omega]
    rfl
theorem book_wp {cs : List Int} {a l m : Int} {ls : List Nat} {K : M → List M → Prop} (hc : 1 ≤ cs.length) (hl1 : 1 ≤ ls.length) (hl2 : ls.length ≤ 100) (hls : ∀ c ∈ ls, isLet c = true) (hm : 1 ≤ m) (hm2 : m ≤ 80) (ha : 0 ≤ a) (ha2 : a < 800000)
    (h : ∀ a' l' (rs : List Ru), okBo rs → a ≤ a' → a' ≤ a + 1 + 6 * m → K (.im (boD rs)) [drM cs a' l', .im (.str (wd ls)), .im (.int m)]) : wpR (f_law_book [drM cs a l, .im (.str (wd ls)), .im (.int m)]) K := by
  unfold f_law_book
  refine wpR_def rfl ?_
  have e2 := len_wd (ws := ls) (by omega)
  have e3 := add_wd (a := ls) (b := ls) (by omega)
  obtain ⟨wa, wl, wk, e4⟩ := add_ahead hl2 hls
  obtain ⟨wb, wl', wk', e5⟩ := add_behind hl2 hls
  obtain ⟨k, hk, e6⟩ : ∃ k, k = 2 * (ls.length : Int) ∧ mulD (.int 2) (.int (ls.length : Int)) = some (.int k) := ⟨_, rfl, mulD_r (by omega) (by omega)⟩
  simp [g_law_book, args0]
  refine take_wp hc (by omega) (by omega) ha (by omega) fun r l1 hr0 hr1 => ?_
  obtain ⟨n, hn⟩ := Int.eq_ofNat_of_zero_le (show 0 ≤ 1 + r by omega)
  have e1 := rng1_nat (n := n) (by omega)
  rw [← hn] at e1
  simp [e1]
  refine for_inv (em := fun k : Nat => PyData.int (k : Int)) (as := List.range n) (IBook cs a ls m) ⟨[], a + 1, l1, none, none, none, none, fun r hr => by simp at hr, rfl, by simp, rfl⟩ ?_ ?_
  · rintro done i rest e hd ⟨rs, a', l', x4, x5, x6, x7, h1, h2, h3, rfl⟩
    have hlen : done.length + 1 + rest.length = n := by
      have := congrArg List.length hd
      simp at this
      omega
    simp [e2, e3, e4, e6]
    refine take_wp hc (by omega) (by omega) (by omega) (by omega) fun r1 m1 q1 q1' => ?_
    obtain ⟨c1, hc1, i1⟩ := ix_wd (ws := wa) (by omega) q1 (by omega)
    simp [i1, e2]
    refine take_wp hc (by omega) (by omega) (by omega) (by omega) fun r2 m2 q2 q2' => ?_
    obtain ⟨c2, hc2, i2⟩ := ix_wd (ws := ls) (by omega) q2 q2'
    simp [i2, e2, e3, e5, e6]
    refine take_wp hc (by omega) (by omega) (by omega) (by omega) fun r3 m3 q3 q3' => ?_
    obtain ⟨c3, hc3, i3⟩ := ix_wd (ws := wb) (by omega) q3 (by omega)
    simp [i3]
    refine ⟨rfl, ?_⟩
    refine take_wp hc (by omega) (by omega) (by omega) (by omega) fun r4 m4 q4 q4' => ?_
    simp
    refine take_wp hc (by omega) (by omega) (by omega) (by omega) fun r5 m5 q5 q5' => ?_
    simp
    refine take_wp hc (by omega) (by omega) (by omega) (by omega) fun r6 m6 q6 q6' => ?_
    obtain ⟨p, hp, i4⟩ := ix_two (x := r4) (y := r5) q6 q6'
    have e7 := fdvD_int (i := r6) (j := 3) (by decide) (by decide)
    simp [e7, i4]
    refine ⟨by omega, rs ++ [⟨c1, c2, c3, p⟩], a' + 1 + 1 + 1 + 1 + 1 + 1, m6, _, _, _, _, fun x hx => ?_, by simp [h2], by simp; omega, by rw [List.map_append]; rfl⟩
    rcases List.mem_append.mp hx with hx | hx
    · exact h1 x hx
    · rw [List.mem_singleton.mp hx]
      have g1 := wk c1 hc1
      have g2 := hls c2 hc2
      have g3 := wk' c3 hc3
      have g4 : 0 ≤ p ∧ p ≤ 999 := by rcases hp with rfl | rfl <;> omega
      simp [okR, g1, g2, g3, g4]
  · rintro e ⟨rs, a', l', x4, x5, x6, x7, h1, h2, h3, rfl⟩
    rw [List.length_range] at h2 h3
    have hh := h a' l' rs ⟨h1, by omega⟩ (by omega) (by omega)
    have et : (M.ls (rs.map fun r => M.im (ruD r))).toD = some (.list (rs.map ruD)) := ls_toD
    simp [backs_cons, et, tupleD]
    exact hh
end FDL

namespace FDL
open PySem L2 FD GP
def prD (g : Nat × Nat) : D := .tuple [.int ((g.1 : Int) - 1), .int ((g.2 : Int) - 1)]
def gapsAt (n P : Nat) : List (Nat × Nat) := (List.range' (P + 1) (n + 1 - P)).map fun Q => (P, Q)
theorem flat_le {n : Nat} : ∀ {l : List Nat}, (l.flatMap (gapsAt n)).length ≤ l.length * (n + 1)
  | [] => by simp
  | x :: l => by
    have := flat_le (n := n) (l := l)
    rw [List.flatMap_cons, List.length_append, List.length_cons, Nat.add_mul]
    have h1 : (gapsAt n x).length ≤ n + 1 := by unfold gapsAt; rw [List.length_map, List.length_range']; omega
    omega
def allGaps (n : Nat) : List (Nat × Nat) := (List.range' 0 (n + 1)).flatMap (gapsAt n)
def IGaps (n : Nat) (j : Int) (done : List Nat) (e : FD.Env) : Prop := ∃ x2 : Option M, e = [some (.im (.int j)), some (.im (.list ((done.flatMap (gapsAt n)).map prD))), x2, none]
theorem all_gaps_at {n : Nat} {j : Int} (hj : j = (n : Int)) (hn : n ≤ 120) : f_law_all_gaps [.im (.int j)] = .ok (.im (.list ((allGaps n).map prD))) [.im (.int j)] := by
  apply wpR_eq
  unfold f_law_all_gaps
  refine wpR_def rfl ?_
  have er := rng_m1 (i := -1) (j := j) (lo := 0) (n := n + 1) (by omega) (by omega) (by omega)
  simp [g_law_all_gaps, args0, er]
  refine for_inv (em := fun k : Nat => PyData.int ((k : Int) - 1)) (as := List.range' 0 (n + 1)) (IGaps n j) ⟨none, rfl⟩ ?_ ?_
  · rintro done P rest e hd ⟨x2, rfl⟩
    obtain ⟨eP, hP⟩ := range_at hd
    have hlen := flat_le (n := n) (l := done ++ [P])
    have hdl : (done ++ [P]).length * (n + 1) ≤ 121 * 121 := Nat.mul_le_mul (by simp; omega) (by omega)
    have er2 := rng_m1 (i := (P : Int) - 1 + 1) (j := j + 1) (lo := P + 1) (n := n + 1 - P) (by omega) (by omega) (by omega)
    simp [-Int.sub_add_cancel]
    rw [er2, wpo_some]
    refine comp_map (em := fun k : Nat => PyData.int ((k : Int) - 1)) (fun Q => prD (P, Q)) rfl rfl rfl (by rw [List.length_range']; omega) (fun Q hQ => ?_) ?_
    · simp [wipeE, imAt, prD]
    · have ef : (done ++ [P]).flatMap (gapsAt n) = done.flatMap (gapsAt n) ++ gapsAt n P := by rw [List.flatMap_append]; simp
      have ea : addD (.list ((done.flatMap (gapsAt n)).map prD)) (.list ((List.range' (P + 1) (n + 1 - P)).map fun Q => prD (P, Q))) = some (.list (((done ++ [P]).flatMap (gapsAt n)).map prD)) := by
        rw [ef, List.map_append]
        show (if few (_ + _) then some (PyData.list _) else none) = _
        rw [if_pos (few_le' ?_)]
        · unfold gapsAt
          rw [List.map_map]
          rfl
        · rw [ef, List.length_append] at hlen
          rw [List.length_map, List.length_map]
          have : (gapsAt n P).length = (List.range' (P + 1) (n + 1 - P)).length := by unfold gapsAt; rw [List.length_map]
          omega
      rw [kBin2_at, ea]
      simp
      exact ⟨_, by rw [ef, List.map_append]⟩
  · rintro e ⟨x2, rfl⟩
    simp [allGaps]
end FDL

namespace FDL
open PySem L2 FD GP
/-! ### the draws begun -/
def DrOk (m : M) : Prop := ∃ (cs : List Int) (a l : Int), 1 ≤ cs.length ∧ 0 ≤ a ∧ a ≤ 1000 ∧ m = drM cs a l
def IDraws (ns cs : List Int) (done : List (Int × Nat)) (e : FD.Env) : Prop :=
  ∃ (ms : List M) (x3 x4 : Option M), (∀ m ∈ ms, DrOk m) ∧ ms.length = done.length ∧ e = [some (.im (.list (ns.map PyData.int))), some (.im (.list (cs.map PyData.int))), some (.ls ms), x3, x4]
theorem ne_ints (ns : List Int) : neD (.list (ns.map PyData.int)) (.list []) = some (.bool (!ns.isEmpty)) := by
  have s1 : SeqAt.shaped (.list (ns.map PyData.int)) = true := by
    have h1 : PyData.canLayAll0 (ns.map PyData.int) = true := by
      induction ns with
      | nil => rfl
      | cons n ns ih => simp only [List.map_cons, PyData.canLayAll0, ih, Bool.and_true]; rfl
    have h2 : PyData.depthAll (ns.map PyData.int) = 0 := by
      clear h1
      induction ns with
      | nil => rfl
      | cons n ns ih => simp only [List.map_cons, PyData.depthAll, PyData.depth, ih]; rfl
    unfold SeqAt.shaped
    simp only [PyData.canLay0, h1, PyData.depth, h2]
    decide
  have : eqOk (.list (ns.map PyData.int)) (.list []) = true := by
    unfold eqOk
    rw [s1]
    simp
    exact .inr rfl
  unfold neD
  rw [if_pos this]
  cases ns <;> rfl
theorem sl_hiL {cs : List Int} {n : Nat} : slD (.list (cs.map PyData.int)) none (some (n : Int)) = some (.list ((cs.take n).map PyData.int)) := by
  show some (PyData.list (cutD _ none (some ((n : Nat) : Int)))) = _
  rw [cut_hi, List.map_take]
theorem sl_loL {cs : List Int} {n : Nat} : slD (.list (cs.map PyData.int)) (some (n : Int)) none = some (.list ((cs.drop n).map PyData.int)) := by
  show some (PyData.list (cutD _ (some ((n : Nat) : Int)) none)) = _
  rw [cut_lo, List.map_drop]
theorem pow10 : powD (.int 10) (.int 18) = some (.int 1000000000000000000) := rfl
theorem add_ints {a b : List Int} (h : a.length + b.length ≤ 1000) : addD (.list (a.map PyData.int)) (.list (b.map PyData.int)) = some (.list ((a ++ b).map PyData.int)) := by
  show (if few (_ + _) then some (PyData.list _) else none) = _
  rw [if_pos (few_le' (by simp; omega)), List.map_append]
theorem draws_wp {ns : List Int} {K : M → List M → Prop} (hn : ns.length ≤ 63)
    (h : ∀ ms : List M, (∀ m ∈ ms, DrOk m) → K (.ls ms) [.im (.list (ns.map PyData.int))]) : wpR (f_law_draws [.im (.list (ns.map PyData.int))]) K := by
  unfold f_law_draws
  refine wpR_def rfl ?_
  suffices hs : ∀ cs : List Int, 1 ≤ cs.length → cs.length ≤ 63 → kSeq (seqS (setM 2 (lstM nilA)) (seqS (forS (itA enA (consA (slE (var 1) (FD.ret none) (intE (FD.ret (.int 6)))) nilA)) (gT 2 (gsCons (gN 3) (gsCons (gN 4) gsNil))) (appOS 2 (dispM ["cells", "at", "left"] (consA (FD.bin addD (slE (var 1) (intE (var 3)) (FD.ret none)) (slE (var 1) (FD.ret none) (intE (var 3)))) (consA (FD.bin mulD (FD.ret (.int 89)) (var 3)) (consA (ifE (tst (FD.bin geI (var 4) (FD.bin powD (FD.ret (.int 10)) (FD.ret (.int 18))))) (var 4) (FD.ret (.int 0))) nilA)))))) (retM (mvM 2)))) (kFin [] [.im (.list (ns.map PyData.int))] K) noX .nxt [some (.im (.list (ns.map PyData.int))), some (.im (.list (cs.map PyData.int))), none, none, none] by
    have e0 := ne_ints ns
    cases ns with
    | nil =>
      have := hs [0] (by decide) (by decide)
      simp [g_law_draws, args0] at e0 this ⊢
      simp [e0]
      simpa using this
    | cons x ns =>
      have := hs (x :: ns) (by simp) hn
      simp [g_law_draws, args0] at e0 this ⊢
      simp [e0, listD]
      simpa using this
  intro cs h1 h2
  have e1 := sl_hiL (cs := cs) (n := 6)
  rw [show ((6 : Nat) : Int) = 6 from rfl] at e1
  simp [e1, enA]
  rw [← List.map_take, enum_map]
  refine for_inv (em := fun q : Int × Nat => PyData.tuple [.int (q.2 : Nat), .int q.1]) (as := (cs.take 6).zipIdx) (IDraws ns cs) ⟨[], none, none, fun m hm => by simp at hm, rfl, rfl⟩ ?_ ?_
  · rintro done ⟨x, i⟩ rest e hd ⟨ms, x3, x4, g1, g2, rfl⟩
    have hi : i < 6 := by
      have hm : (x, i) ∈ (cs.take 6).zipIdx := by rw [hd]; simp
      have := List.snd_lt_of_mem_zipIdx hm
      rw [List.length_take] at this
      simp at this
      omega
    have hdl : done.length ≤ 6 := by
      have := congrArg List.length hd
      simp at this
      omega
    have e2 := sl_hiL (cs := cs) (n := i)
    have e3 := sl_loL (cs := cs) (n := i)
    have e4 := add_ints (a := cs.drop i) (b := cs.take i) (by simp; omega)
    obtain ⟨y, hy, e5⟩ : ∃ y, y = 89 * (i : Int) ∧ mulD (.int 89) (.int (i : Int)) = some (.int y) := ⟨_, rfl, mulD_r (by omega) (by omega)⟩
    have fin : ∀ z : Int, IDraws ns cs (done ++ [(x, i)]) [some (.im (.list (ns.map PyData.int))), some (.im (.list (cs.map PyData.int))), some (.ls (ms ++ [drM (cs.drop i ++ cs.take i) y z])), some (.im (.int (i : Int))), some (.im (.int x))] := fun z => ⟨_, _, _, fun m hm => by
      rcases List.mem_append.mp hm with hm | hm
      · exact g1 m hm
      · exact ⟨cs.drop i ++ cs.take i, y, z, by simp; omega, by omega, by omega, List.mem_singleton.mp hm⟩, by simp [g2], rfl⟩
    generalize hcs : cs.drop i ++ cs.take i = cz at *
    by_cases hx : (1000000000000000000 : Int) ≤ x
    · have := fin x
      simp [e2, e3, e4, e5, pow10, hx, -List.map_take, -List.map_drop]
      refine ⟨rfl, ⟨⟨by decide, by decide⟩, by decide⟩, ?_⟩
      rw [kAppO_at (ms := ms) rfl]
      exact ⟨by omega, this⟩
    · have := fin 0
      simp [e2, e3, e4, e5, pow10, hx, -List.map_take, -List.map_drop]
      refine ⟨rfl, ⟨⟨by decide, by decide⟩, by decide⟩, ?_⟩
      rw [kAppO_at (ms := ms) rfl]
      exact ⟨by omega, this⟩
  · rintro e ⟨ms, x3, x4, g1, g2, rfl⟩
    have := h ms g1
    simp [this]
end FDL

namespace FDL
open PySem L2 FD GP
theorem all_gap_ok {n : Nat} {g : Nat × Nat} (h : g ∈ allGaps n) : g.1 < g.2 ∧ g.2 ≤ n + 1 := by
  unfold allGaps gapsAt at h
  obtain ⟨P, hP, h⟩ := List.mem_flatMap.mp h
  obtain ⟨Q, hQ, rfl⟩ := List.mem_map.mp h
  rw [List.mem_range'_1] at hP hQ
  simp
  omega
def ILaw (ns : List Int) (ms : List M) (e : FD.Env) : Prop :=
  ∃ x1 x2 x3 x4 : Option M, (∀ m ∈ ms, DrOk m) ∧ e = [some (.im (.list (ns.map PyData.int))), x1, x2, x3, x4, none, none]
theorem law_true (ns : List Int) (hn : ns.length ≤ 63) : ∃ ms', flaw [.im (.list (ns.map .int))] = .ok (.im (.bool true)) ms' := by
  suffices hs : wpR (flaw [.im (.list (ns.map .int))]) fun x _ => x = .im (.bool true) by
    obtain ⟨r, ms, e, rfl⟩ := wpR_ex hs
    exact ⟨ms, e⟩
  unfold flaw
  refine wpR_def rfl ?_
  simp [glaw, args0]
  refine draws_wp hn fun ms hms => ?_
  simp
  refine forM_inv (ILaw ns) ⟨_, _, _, _, hms, rfl⟩ ?_ ?_
  · rintro m rest e ⟨x1, x2, x3, x4, hm, rfl⟩
    obtain ⟨cs, a, l, hc, ha, ha2, rfl⟩ := hm m List.mem_cons_self
    refine ⟨by simp, ?_⟩
    simp
    refine letters_wp hc ha (by omega) fun l1 ls hl1 hl2 hls => ?_
    simp
    refine book_wp hc (by omega) (by omega) hls (by omega) (by omega) (by omega) (by omega) fun a2 l2 rs hb h1 h2 => ?_
    simp
    refine word_wp hc (by omega) (by omega) hls (by omega) (by omega) (by omega) (by omega) fun a3 l3 ws hw hwl h3 h4 => ?_
    obtain ⟨j, hj⟩ : ∃ j : Int, j = (ws.length : Int) := ⟨_, rfl⟩
    have e1 := len_wd (ws := ws) (by omega)
    have e2 := all_gaps_at hj (by omega)
    rw [← hj] at e1
    simp [e1, e2, itX]
    refine comp_map (em := prD) (fun g => .bool true) rfl rfl rfl ?_ (fun g hg => ?_) ?_
    · have := flat_le (n := ws.length) (l := List.range' 0 (ws.length + 1))
      rw [List.length_range'] at this
      have h5 : (ws.length + 1) * (ws.length + 1) ≤ 121 * 121 := Nat.mul_le_mul (by omega) (by omega)
      exact Nat.le_trans this (by omega)
    · obtain ⟨g1, g2⟩ := all_gap_ok hg
      have e3 := law_right_at hw hb ⟨g1, g2⟩
      simp [prD, e3, wipeE, imAt]
    · have e4 := all_bools (fun _ : Nat × Nat => true) (allGaps ws.length)
      rw [show ((allGaps ws.length).all fun _ => true) = true by simp] at e4
      simp [e4]
      exact ⟨_, _, _, _, fun m hm' => hm m (List.mem_cons_of_mem _ hm'), rfl⟩
  · rintro e ⟨x1, x2, x3, x4, _, rfl⟩
    simp
end FDL

namespace FDL
open PySem L2 FD
/-! The defs of the text: places, scopes, what each denotes, the derivations. Printed by gen.py. -/
def top (i : Nat) : Stmt := PySem.Challenge.pw_strikeline_k20_whole_first_and_last.main.body.getD i (.Pass ⟨0, 0, 0, 0⟩)
abbrev sis_whole : Stmt := top 9
abbrev sis_letter : Stmt := top 10
abbrev sneed_word : Stmt := top 11
abbrev sis_side : Stmt := top 18
abbrev srule_looks : Stmt := top 19
abbrev sneed_book : Stmt := top 20
abbrev sneed_gap : Stmt := top 26
abbrev sneed_all : Stmt := top 27
abbrev sFits___init__ : Stmt := inClass (top 24) 0
abbrev sGaps___init__ : Stmt := inClass (top 25) 0
abbrev sFits_cost : Stmt := inClass (top 24) 1
abbrev sGaps_cost : Stmt := inClass (top 25) 1
abbrev sGaps_is_open : Stmt := inClass (top 25) 2
abbrev sGaps_look : Stmt := inClass (top 25) 3
abbrev sGaps_look_within : Stmt := inClass (top 25) 4
abbrev sgaps_within : Stmt := top 28
abbrev sclears : Stmt := top 29
abbrev smay_first : Stmt := top 30
abbrev smay_last : Stmt := top 31
abbrev s_law_draws : Stmt := top 33
abbrev s_law_take : Stmt := top 34
abbrev s_law_book : Stmt := top 35
abbrev s_law_letters : Stmt := top 36
abbrev s_law_word : Stmt := top 37
abbrev s_law_cost : Stmt := top 38
abbrev s_law_at : Stmt := top 39
abbrev s_law_goes : Stmt := top 40
abbrev s_law_all_gaps : Stmt := top 41
abbrev s_law_right : Stmt := top 42
abbrev slaw : Stmt := top 43
structure Txt (K : PySem.W.Frag) (mg : Str → Option Value) : Prop where
  b_all : mg "all" = none
  b_any : mg "any" = none
  b_bool : mg "bool" = none
  b_enumerate : mg "enumerate" = none
  b_int : mg "int" = none
  b_isinstance : mg "isinstance" = none
  b_len : mg "len" = none
  b_list : mg "list" = none
  b_min : mg "min" = none
  b_range : mg "range" = none
  b_repr : mg "repr" = none
  b_str : mg "str" = none
  b_tuple : mg "tuple" = none
  c_ANY_SIGN : Con mg "ANY_SIGN" (.str "*")
  c_BEFORE : Con mg "BEFORE" (.str "<")
  c_BEHIND : Con mg "BEHIND" (.str ">")
  c_FIRST_END : Con mg "FIRST_END" (.str "<")
  c_LAST_END : Con mg "LAST_END" (.str ">")
  c_LETTERS : Con mg "LETTERS" (.str "abcdefghijklmnopqrstuvwxyz")
  c_MOST_PRICE : Con mg "MOST_PRICE" (.int 999)
  c_MOST_RULES : Con mg "MOST_RULES" (.int 80)
  c_MOST_WORD : Con mg "MOST_WORD" (.int 120)
  a_Fits_own_costs : Att K "Fits" "own_costs"
  a_Fits_own_rules : Att K "Fits" "own_rules"
  a_Gaps_own_fits : Att K "Gaps" "own_fits"
  a_Gaps_own_roots : Att K "Gaps" "own_roots"
  a_Gaps_own_word : Att K "Gaps" "own_word"
section
variable {P : Program} {w : World} {K : PySem.W.Frag} {mg : Str → Option Value} {base : Heap}
theorem scis_whole : FnScope ["thing", "least", "most"] ["thing", "least", "most"] (defScope sis_whole) := ⟨rfl, rfl, rfl, by decide +kernel, rfl, by decide +kernel, by decide +kernel⟩
theorem bdis_whole (T : Txt K mg) : Body P w K mg base 0 "is_whole" sis_whole ["thing", "least", "most"] [] gis_whole := fun f cdv A outer s H vs E hg hr => (dss_one (ds_ret (de_and (de_isi kit_int T.b_isinstance T.b_int (de_var 0)) (de_and (de_not (de_isi kit_bool T.b_isinstance T.b_bool (de_var 0))) (de_one (de_chain od_le od_le (de_var 1) (de_var 0) (de_var 2)))))))
theorem scis_letter : FnScope ["thing"] ["thing"] (defScope sis_letter) := ⟨rfl, rfl, rfl, by decide +kernel, rfl, by decide +kernel, by decide +kernel⟩
theorem bdis_letter (T : Txt K mg) : Body P w K mg base 0 "is_letter" sis_letter ["thing"] [] gis_letter := fun f cdv A outer s H vs E hg hr => (dss_one (ds_ret (de_and (de_isi kit_str T.b_isinstance T.b_str (de_var 0)) (de_and (de_cmp (od_eqA hr) (de_callB cb_len T.b_len (da_cons (de_var 0) da_nil)) de_int) (de_one (de_cmp (od_inA hr) (de_var 0) (de_con T.c_LETTERS)))))))
theorem scneed_word : FnScope ["thing", "place", "sign"] ["thing"] (defScope sneed_word) := ⟨rfl, rfl, rfl, by decide +kernel, rfl, by decide +kernel, by decide +kernel⟩
theorem bdneed_word (T : Txt K mg) : Body P w K mg base 0 "need_word" sneed_word ["thing", "place", "sign"] [] gneed_word := fun f cdv A outer s H vs E hg hr => (dss_cons (ds_if (dt_w (dw_or (dt_not (dt_val (de_isi kit_str T.b_isinstance T.b_str (de_var 0)))) (dw_or1 (dt_cmp od_gt (de_callB cb_len T.b_len (da_cons (de_var 0) da_nil)) (de_con T.c_MOST_WORD))))) (dss_one ds_never) dss_nil) (dss_one (ds_for (di_enS T.b_enumerate (da_cons (de_var 0) da_nil)) (dg_tup (dgs_cons (dg_name 1 scneed_word.nd) (dgs_cons (dg_name 2 scneed_word.nd) dgs_nil))) (dss_one (ds_if (dt_cmp (od_ninA hr) (de_var 2) (de_con T.c_LETTERS)) (dss_one ds_never) dss_nil)) PassesOwn.never)))
theorem scis_side : FnScope ["thing", "end"] ["thing", "end"] (defScope sis_side) := ⟨rfl, rfl, rfl, by decide +kernel, rfl, by decide +kernel, by decide +kernel⟩
theorem bdis_side (T : Txt K mg) (h_is_letter : Has P w K mg base 1 "is_letter" ["thing"] fis_letter) : Body P w K mg base 1 "is_side" sis_side ["thing", "end"] [] gis_side := fun f cdv A outer s H vs E hg hr => (dss_one (ds_ret (de_or (de_callH h_is_letter hg (hr.mono (by decide)) (dr_d (de_var 0) dr_nil)) (de_one (de_and (de_isi kit_str T.b_isinstance T.b_str (de_var 0)) (de_one (de_cmp (od_inA hr) (de_var 0) (de_tup (da_cons (de_var 1) (da_cons (de_con T.c_ANY_SIGN) da_nil))))))))))
theorem scrule_looks : FnScope ["thing", "sides"] ["thing"] (defScope srule_looks) := ⟨rfl, rfl, rfl, by decide +kernel, rfl, by decide +kernel, by decide +kernel⟩
theorem bdrule_looks (T : Txt K mg) (h_is_side : Has P w K mg base 2 "is_side" ["thing", "end"] fis_side) (h_is_letter : Has P w K mg base 1 "is_letter" ["thing"] fis_letter) (k_is_whole_1_most : HasK P w K mg base 1 "is_whole" ["thing", "least", "most"] fis_whole 1 ["most"] [.inl 0, .inr 0, .inl 1] [.int 0]) : Body P w K mg base 2 "rule_looks" srule_looks ["thing", "sides"] [] grule_looks := fun f cdv A outer s H vs E hg hr => (dss_cons (ds_set 1 scrule_looks.nd (de_lst (da_cons (de_callH h_is_side hg (hr.mono (by decide)) (dr_d (de_ixA hr (de_var 0) de_int) (dr_d (de_con T.c_FIRST_END) dr_nil))) (da_cons (de_callH h_is_letter hg (hr.mono (by decide)) (dr_d (de_ixA hr (de_var 0) de_int) dr_nil)) (da_cons (de_callH h_is_side hg (hr.mono (by decide)) (dr_d (de_ixA hr (de_var 0) de_int) (dr_d (de_con T.c_LAST_END) dr_nil))) da_nil))))) (dss_one (ds_ret (de_bin od_add (de_var 1) (de_lst (da_cons (de_callHK k_is_whole_1_most hg (hr.mono (by decide)) (dr_d (de_ixA hr (de_var 0) de_int) dr_nil) (dk_cons (de_con T.c_MOST_PRICE) dk_nil)) da_nil))))))
theorem scneed_book : FnScope ["thing", "place", "rule"] ["thing"] (defScope sneed_book) := ⟨rfl, rfl, rfl, by decide +kernel, rfl, by decide +kernel, by decide +kernel⟩
theorem bdneed_book (T : Txt K mg) (h_rule_looks : Has P w K mg base 3 "rule_looks" ["thing"] frule_looks) : Body P w K mg base 3 "need_book" sneed_book ["thing", "place", "rule"] [] gneed_book := fun f cdv A outer s H vs E hg hr => (dss_cons (ds_if (dt_w (dw_or (dt_not (dt_val (de_isi kit_tuple T.b_isinstance T.b_tuple (de_var 0)))) (dw_or1 (dt_cmp od_gt (de_callB cb_len T.b_len (da_cons (de_var 0) da_nil)) (de_con T.c_MOST_RULES))))) (dss_one ds_never) dss_nil) (dss_one (ds_for (di_enum T.b_enumerate (da_cons (de_var 0) da_nil)) (dg_tup (dgs_cons (dg_name 1 scneed_book.nd) (dgs_cons (dg_name 2 scneed_book.nd) dgs_nil))) (dss_one (ds_if (dt_w (dw_or (dt_not (dt_val (de_isi kit_tuple T.b_isinstance T.b_tuple (de_var 2)))) (dw_or (dt_cmp (od_ne hr) (de_callB cb_len T.b_len (da_cons (de_var 2) da_nil)) de_int) (dw_or1 (dt_cmp (od_inA hr) de_bl (de_callH h_rule_looks hg (hr.mono (by decide)) (dr_d (de_var 2) dr_nil))))))) (dss_one ds_never) dss_nil)) PassesOwn.never)))
theorem scneed_gap : FnScope ["word", "p", "q"] ["word", "p", "q"] (defScope sneed_gap) := ⟨rfl, rfl, rfl, by decide +kernel, rfl, by decide +kernel, by decide +kernel⟩
theorem bdneed_gap (T : Txt K mg) (k_is_whole_1_least_most : HasK P w K mg base 1 "is_whole" ["thing", "least", "most"] fis_whole 1 ["least", "most"] [.inl 0, .inl 1, .inl 2] []) : Body P w K mg base 1 "need_gap" sneed_gap ["word", "p", "q"] [] gneed_gap := fun f cdv A outer s H vs E hg hr => (dss_cons (ds_if (dt_not (dt_val (de_callHK k_is_whole_1_least_most hg (hr.mono (by decide)) (dr_d (de_var 1) dr_nil) (dk_cons (de_neg de_int) (dk_cons (de_bin od_sub (de_callB cb_len T.b_len (da_cons (de_var 0) da_nil)) de_int) dk_nil))))) (dss_one ds_never) dss_nil) (dss_one (ds_if (dt_not (dt_val (de_callHK k_is_whole_1_least_most hg (hr.mono (by decide)) (dr_d (de_var 2) dr_nil) (dk_cons (de_bin od_add (de_var 1) de_int) (dk_cons (de_callB cb_len T.b_len (da_cons (de_var 0) da_nil)) dk_nil))))) (dss_one ds_never) dss_nil)))
theorem scneed_all : FnScope ["word", "book", "p", "q"] ["word", "book", "p", "q"] (defScope sneed_all) := ⟨rfl, rfl, rfl, by decide +kernel, rfl, by decide +kernel, by decide +kernel⟩
theorem bdneed_all (T : Txt K mg) (h_need_word : Has P w K mg base 1 "need_word" ["thing"] fneed_word) (h_need_book : Has P w K mg base 4 "need_book" ["thing"] fneed_book) (h_need_gap : Has P w K mg base 2 "need_gap" ["word", "p", "q"] fneed_gap) : Body P w K mg base 4 "need_all" sneed_all ["word", "book", "p", "q"] [] gneed_all := fun f cdv A outer s H vs E hg hr => (dss_cons (ds_expr (de_callH h_need_word hg (hr.mono (by decide)) (dr_d (de_var 0) dr_nil))) (dss_cons (ds_expr (de_callH h_need_book hg (hr.mono (by decide)) (dr_d (de_var 1) dr_nil))) (dss_one (ds_expr (de_callH h_need_gap hg (hr.mono (by decide)) (dr_d (de_var 0) (dr_d (de_var 2) (dr_d (de_var 3) dr_nil))))))))
theorem scFits___init__ : FnScope ["self", "book", "ahead", "letter", "behind", "cost"] ["self", "book"] (defScope sFits___init__) := ⟨rfl, rfl, rfl, by decide +kernel, rfl, by decide +kernel, by decide +kernel⟩
theorem bdFits___init__ (T : Txt K mg) : Body P w K mg base 0 "Fits.__init__" sFits___init__ ["self", "book", "ahead", "letter", "behind", "cost"] [0] gFits___init__ := fun f cdv A outer s H vs E hg hr => (dss_cons (ds_fld T.a_Fits_own_rules (pl_var 0) dm_dk) (dss_cons (ds_fld T.a_Fits_own_costs (pl_var 0) dm_dt) (dss_one (ds_for (di_any (de_var 1)) (dg_tup (dgs_cons (dg_name 2 scFits___init__.nd) (dgs_cons (dg_name 3 scFits___init__.nd) (dgs_cons (dg_name 4 scFits___init__.nd) (dgs_cons (dg_name 5 scFits___init__.nd) dgs_nil))))) (dss_one (ds_sdApp (pl_fld (pl_var 0) T.a_Fits_own_rules) (dq_pl (pl_var 3)) (dq_tupQ (dqa_cons (dq_pl (pl_var 2)) (dqa_cons (dq_pl (pl_var 4)) (dqa_cons (dq_pl (pl_var 5)) dqa_nil)))) ⟨rfl, rfl, rfl, rfl⟩)) PassesOwn.never))))
theorem scGaps___init__ : FnScope ["self", "word", "fits"] ["self", "word", "fits"] (defScope sGaps___init__) := ⟨rfl, rfl, rfl, by decide +kernel, rfl, by decide +kernel, by decide +kernel⟩
theorem bdGaps___init__ (T : Txt K mg) : Body P w K mg base 0 "Gaps.__init__" sGaps___init__ ["self", "word", "fits"] [0] gGaps___init__ := fun f cdv A outer s H vs E hg hr => (dss_cons (ds_fld T.a_Gaps_own_word (pl_var 0) (dm_d (de_bin od_add (de_bin od_add (de_con T.c_BEFORE) (de_var 1)) (de_con T.c_BEHIND)))) (dss_cons (ds_fld T.a_Gaps_own_fits (pl_var 0) (dm_mv 2)) (dss_one (ds_fld T.a_Gaps_own_roots (pl_var 0) dm_dt))))
theorem scFits_cost : FnScope ["self", "ahead", "letter", "behind", "case", "some", "found", "row"] ["self", "ahead", "letter", "behind"] (defScope sFits_cost) := ⟨rfl, rfl, rfl, by decide +kernel, rfl, by decide +kernel, by decide +kernel⟩
theorem bdFits_cost (T : Txt K mg) : Body P w K mg base 0 "Fits.cost" sFits_cost ["self", "ahead", "letter", "behind", "case", "some", "found", "row"] [0] gFits_cost := fun f cdv A outer s H vs E hg hr => (dss_cons (ds_set 4 scFits_cost.nd (de_tup (da_cons (de_var 1) (da_cons (de_var 2) (da_cons (de_var 3) da_nil))))) (dss_cons (ds_if (dt_ninPl hr (de_var 4) (pl_fld (pl_var 0) T.a_Fits_own_costs)) (dss_cons (ds_set 5 scFits_cost.nd (de_get2 hr (de_plD (pl_fld (pl_var 0) T.a_Fits_own_rules)) (da_cons (de_var 2) (da_cons (de_lst da_nil) da_nil)) (m2_of rfl rfl rfl rfl))) (dss_cons (ds_setLc 6 [("row", 7)] scFits_cost.nd (di_any (de_var 5)) (blkOk_by (by kernel_rfl)) (fun _ _ _ _ _ => (dg_name 7 scFits_cost.nd)) (fun _ _ _ _ _ => (dts_two (dt_cmp (od_inA hr) (de_ixA hr (de_var 7) de_int) (de_tup (da_cons (de_var 1) (da_cons de_str da_nil)))) (dt_cmp (od_inA hr) (de_ixA hr (de_var 7) de_int) (de_tup (da_cons (de_var 3) (da_cons de_str da_nil)))))) (fun _ _ _ _ _ => (de_ixA hr (de_var 7) de_int)) (sw_true rfl rfl rfl rfl)) (dss_one (ds_stoP hr (pl_fld (pl_var 0) T.a_Fits_own_costs) (dq_pl (pl_var 4)) (de_minDf (de_var 6) T.b_min))))) dss_nil) (dss_one (ds_ret (de_ixPl hr (pl_fld (pl_var 0) T.a_Fits_own_costs) (dq_pl (pl_var 4)))))))
theorem scGaps_cost : FnScope ["self", "place", "p", "q", "word"] ["self", "place", "p", "q"] (defScope sGaps_cost) := ⟨rfl, rfl, rfl, by decide +kernel, rfl, by decide +kernel, by decide +kernel⟩
theorem bdGaps_cost (T : Txt K mg) (h_Fits_cost : HasM P w K mg base 1 "Fits" "cost" ["self", "ahead", "letter", "behind"] fFits_cost) : Body P w K mg base 1 "Gaps.cost" sGaps_cost ["self", "place", "p", "q", "word"] [0] gGaps_cost := fun f cdv A outer s H vs E hg hr => (dss_cons (ds_set 4 scGaps_cost.nd (de_pl (pl_fld (pl_var 0) T.a_Gaps_own_word))) (dss_one (ds_ret (de_frz (dm_methP h_Fits_cost hg (hr.mono (by decide)) (pl_fld (pl_var 0) T.a_Gaps_own_fits) (dqa_cons (dq_ix hr (dq_pl (pl_var 4)) (dq_bin od_add (dq_pl (pl_var 2)) dq_int)) (dqa_cons (dq_ix hr (dq_pl (pl_var 4)) (dq_bin od_add (dq_pl (pl_var 1)) dq_int)) (dqa_cons (dq_ix hr (dq_pl (pl_var 4)) (dq_bin od_add (dq_pl (pl_var 3)) dq_int)) dqa_nil))))))))
theorem scGaps_is_open : FnScope ["self", "p", "q"] ["self", "p", "q"] (defScope sGaps_is_open) := ⟨rfl, rfl, rfl, by decide +kernel, rfl, by decide +kernel, by decide +kernel⟩
theorem bdGaps_is_open (T : Txt K mg) : Body P w K mg base 0 "Gaps.is_open" sGaps_is_open ["self", "p", "q"] [0] gGaps_is_open := fun f cdv A outer s H vs E hg hr => (dss_one (ds_ret (de_or (de_cmp (od_eqA hr) (de_bin od_sub (de_var 2) (de_var 1)) de_int) (de_one (de_cmp (od_ne hr) (de_ixPl hr (pl_fld (pl_var 0) T.a_Gaps_own_roots) (dq_tupQ (dqa_cons (dq_pl (pl_var 1)) (dqa_cons (dq_pl (pl_var 2)) dqa_nil)))) (de_lst da_nil))))))
theorem scGaps_look : FnScope ["self", "p", "q", "place"] ["self", "p", "q"] (defScope sGaps_look) := ⟨rfl, rfl, rfl, by decide +kernel, rfl, by decide +kernel, by decide +kernel⟩
theorem bdGaps_look (T : Txt K mg) (h_Gaps_cost : HasM P w K mg base 2 "Gaps" "cost" ["self", "place", "p", "q"] fGaps_cost) (h_Gaps_is_open : HasM P w K mg base 1 "Gaps" "is_open" ["self", "p", "q"] fGaps_is_open) : Body P w K mg base 2 "Gaps.look" sGaps_look ["self", "p", "q", "place"] [0] gGaps_look := fun f cdv A outer s H vs E hg hr => (dss_one (ds_stoP hr (pl_fld (pl_var 0) T.a_Gaps_own_roots) (dq_tupQ (dqa_cons (dq_pl (pl_var 1)) (dqa_cons (dq_pl (pl_var 2)) dqa_nil))) (de_comp [("place", 3)] scGaps_look.nd (di_range2 T.b_range (da_cons (de_bin od_add (de_var 1) de_int) (da_cons (de_var 2) da_nil))) (blkOk_by (by kernel_rfl)) (fun _ _ _ _ _ => (dg_name 3 scGaps_look.nd)) (fun _ _ _ _ _ => (dts_one (dt_w (dw_and (dt_cmp od_isn (de_frz (dm_methP h_Gaps_cost hg (hr.mono (by decide)) (pl_var 0) (dqa_cons (dq_pl (pl_var 3)) (dqa_cons (dq_pl (pl_var 1)) (dqa_cons (dq_pl (pl_var 2)) dqa_nil))))) de_non) (dw_and (dt_val (de_frz (dm_methP h_Gaps_is_open hg (hr.mono (by decide)) (pl_var 0) (dqa_cons (dq_pl (pl_var 1)) (dqa_cons (dq_pl (pl_var 3)) dqa_nil))))) (dw_and1 (dt_val (de_frz (dm_methP h_Gaps_is_open hg (hr.mono (by decide)) (pl_var 0) (dqa_cons (dq_pl (pl_var 3)) (dqa_cons (dq_pl (pl_var 2)) dqa_nil))))))))))) (fun _ _ _ _ _ => (de_var 3)))))
theorem scGaps_look_within : FnScope ["self", "p", "q", "wide", "low"] ["self", "p", "q"] (defScope sGaps_look_within) := ⟨rfl, rfl, rfl, by decide +kernel, rfl, by decide +kernel, by decide +kernel⟩
theorem bdGaps_look_within (T : Txt K mg) (h_Gaps_look : HasM P w K mg base 3 "Gaps" "look" ["self", "p", "q"] fGaps_look) : Body P w K mg base 3 "Gaps.look_within" sGaps_look_within ["self", "p", "q", "wide", "low"] [0] gGaps_look_within := fun f cdv A outer s H vs E hg hr => (dss_one (ds_for (di_range2 T.b_range (da_cons de_int (da_cons (de_bin od_add (de_bin od_sub (de_var 2) (de_var 1)) de_int) da_nil))) (dg_name 3 scGaps_look_within.nd) (dss_one (ds_for (di_range2 T.b_range (da_cons (de_var 1) (da_cons (de_bin od_add (de_bin od_sub (de_var 2) (de_var 3)) de_int) da_nil))) (dg_name 4 scGaps_look_within.nd) (dss_one (ds_if (dt_ninPl hr (de_tup (da_cons (de_var 4) (da_cons (de_bin od_add (de_var 4) (de_var 3)) da_nil))) (pl_fld (pl_var 0) T.a_Gaps_own_roots)) (dss_one (ds_exprM (dm_methP h_Gaps_look hg (hr.mono (by decide)) (pl_var 0) (dqa_cons (dq_pl (pl_var 4)) (dqa_cons (dq_bin od_add (dq_pl (pl_var 4)) (dq_pl (pl_var 3))) dqa_nil))))) dss_nil)) PassesOwn.never)) PassesOwn.never))
theorem scgaps_within : FnScope ["word", "book", "p", "q", "found"] ["word", "book", "p", "q"] (defScope sgaps_within) := ⟨rfl, rfl, rfl, by decide +kernel, rfl, by decide +kernel, by decide +kernel⟩
theorem bdgaps_within (T : Txt K mg) (h_need_all : Has P w K mg base 5 "need_all" ["word", "book", "p", "q"] fneed_all) (h_Gaps___init__ : HasC P w K mg base 1 "Gaps" ["self", "word", "fits"] fGaps___init__) (h_Fits___init__ : HasC P w K mg base 1 "Fits" ["self", "book"] fFits___init__) (h_Gaps_look_within : HasM P w K mg base 4 "Gaps" "look_within" ["self", "p", "q"] fGaps_look_within) : Body P w K mg base 5 "gaps_within" sgaps_within ["word", "book", "p", "q", "found"] [] ggaps_within := fun f cdv A outer s H vs E hg hr => (dss_cons (ds_expr (de_callH h_need_all hg (hr.mono (by decide)) (dr_d (de_var 0) (dr_d (de_var 1) (dr_d (de_var 2) (dr_d (de_var 3) dr_nil)))))) (dss_cons (ds_setM 4 scgaps_within.nd (dm_makeV h_Gaps___init__ hg (hr.mono (by decide)) (dv_d (de_var 0) (dv_m (dm_makeV h_Fits___init__ hg (hr.mono (by decide)) (dv_d (de_var 1) dv_nil)) dqa_nil)))) (dss_cons (ds_exprM (dm_methP h_Gaps_look_within hg (hr.mono (by decide)) (pl_var 4) (dqa_cons (dq_pl (pl_var 2)) (dqa_cons (dq_pl (pl_var 3)) dqa_nil)))) (dss_one (ds_retM (dm_mv 4))))))
theorem scclears : FnScope ["word", "book", "p", "q"] ["word", "book", "p", "q"] (defScope sclears) := ⟨rfl, rfl, rfl, by decide +kernel, rfl, by decide +kernel, by decide +kernel⟩
theorem bdclears (T : Txt K mg) (h_Gaps_is_open : HasM P w K mg base 1 "Gaps" "is_open" ["self", "p", "q"] fGaps_is_open) (h_gaps_within : Has P w K mg base 6 "gaps_within" ["word", "book", "p", "q"] fgaps_within) : Body P w K mg base 6 "clears" sclears ["word", "book", "p", "q"] [] gclears := fun f cdv A outer s H vs E hg hr => (dss_one (ds_ret (de_frz (dm_methT h_Gaps_is_open hg (hr.mono (by decide)) (dm_callH h_gaps_within hg (hr.mono (by decide)) (dr_d (de_var 0) (dr_d (de_var 1) (dr_d (de_var 2) (dr_d (de_var 3) dr_nil))))) (dqa_cons (dq_pl (pl_var 2)) (dqa_cons (dq_pl (pl_var 3)) dqa_nil))))))
theorem scmay_first : FnScope ["word", "book", "p", "q", "found", "place"] ["word", "book", "p", "q"] (defScope smay_first) := ⟨rfl, rfl, rfl, by decide +kernel, rfl, by decide +kernel, by decide +kernel⟩
theorem bdmay_first (T : Txt K mg) (h_need_all : Has P w K mg base 5 "need_all" ["word", "book", "p", "q"] fneed_all) (h_Gaps___init__ : HasC P w K mg base 1 "Gaps" ["self", "word", "fits"] fGaps___init__) (h_Fits___init__ : HasC P w K mg base 1 "Fits" ["self", "book"] fFits___init__) (h_Gaps_cost : HasM P w K mg base 2 "Gaps" "cost" ["self", "place", "p", "q"] fGaps_cost) : Body P w K mg base 5 "may_first" smay_first ["word", "book", "p", "q", "found", "place"] [] gmay_first := fun f cdv A outer s H vs E hg hr => (dss_cons (ds_expr (de_callH h_need_all hg (hr.mono (by decide)) (dr_d (de_var 0) (dr_d (de_var 1) (dr_d (de_var 2) (dr_d (de_var 3) dr_nil)))))) (dss_cons (ds_setM 4 scmay_first.nd (dm_makeV h_Gaps___init__ hg (hr.mono (by decide)) (dv_d (de_var 0) (dv_m (dm_makeV h_Fits___init__ hg (hr.mono (by decide)) (dv_d (de_var 1) dv_nil)) dqa_nil)))) (dss_one (ds_ret (de_callT cb_tuple T.b_tuple (da_cons (de_comp [("place", 5)] scmay_first.nd (di_range2 T.b_range (da_cons (de_bin od_add (de_var 2) de_int) (da_cons (de_var 3) da_nil))) (blkOk_by (by kernel_rfl)) (fun _ _ _ _ _ => (dg_name 5 scmay_first.nd)) (fun _ _ _ _ _ => (dts_one (dt_cmp od_isn (de_frz (dm_methP h_Gaps_cost hg (hr.mono (by decide)) (pl_var 4) (dqa_cons (dq_pl (pl_var 5)) (dqa_cons (dq_bin od_sub (dq_pl (pl_var 5)) dq_int) (dqa_cons (dq_bin od_add (dq_pl (pl_var 5)) dq_int) dqa_nil))))) de_non))) (fun _ _ _ _ _ => (de_var 5))) da_nil))))))
theorem scmay_last : FnScope ["word", "book", "p", "q"] ["word", "book", "p", "q"] (defScope smay_last) := ⟨rfl, rfl, rfl, by decide +kernel, rfl, by decide +kernel, by decide +kernel⟩
theorem bdmay_last (T : Txt K mg) (h_gaps_within : Has P w K mg base 6 "gaps_within" ["word", "book", "p", "q"] fgaps_within) : Body P w K mg base 6 "may_last" smay_last ["word", "book", "p", "q"] [] gmay_last := fun f cdv A outer s H vs E hg hr => (dss_one (ds_ret (de_callT cb_tuple T.b_tuple (da_cons (de_get2 hr (de_fldT T.a_Gaps_own_roots (dm_callH h_gaps_within hg (hr.mono (by decide)) (dr_d (de_var 0) (dr_d (de_var 1) (dr_d (de_var 2) (dr_d (de_var 3) dr_nil)))))) (da_cons (de_tup (da_cons (de_var 2) (da_cons (de_var 3) da_nil))) (da_cons (de_lst da_nil) da_nil)) (m2_of rfl rfl rfl rfl)) da_nil))))
theorem sc_law_draws : FnScope ["_law_script", "_law_cells", "_law_found", "_law_k", "_law_cell"] ["_law_script"] (defScope s_law_draws) := ⟨rfl, rfl, rfl, by decide +kernel, rfl, by decide +kernel, by decide +kernel⟩
theorem bd_law_draws (T : Txt K mg) : Body P w K mg base 0 "_law_draws" s_law_draws ["_law_script", "_law_cells", "_law_found", "_law_k", "_law_cell"] [] g_law_draws := fun f cdv A outer s H vs E hg hr => (dss_cons (ds_set 1 sc_law_draws.nd (de_if (dt_cmp (od_ne hr) (de_var 0) (de_lst da_nil)) (de_callT cb_list T.b_list (da_cons (de_var 0) da_nil)) (de_lst (da_cons de_int da_nil)))) (dss_cons (ds_setM 2 sc_law_draws.nd (dm_lst da_nil)) (dss_cons (ds_for (di_enum T.b_enumerate (da_cons (de_sl (de_var 1) do_none (do_some de_int)) da_nil)) (dg_tup (dgs_cons (dg_name 3 sc_law_draws.nd) (dgs_cons (dg_name 4 sc_law_draws.nd) dgs_nil))) (dss_one (ds_appO 2 (dm_disp (dps_cons (de_bin od_add (de_sl (de_var 1) (do_some (de_var 3)) do_none) (de_sl (de_var 1) do_none (do_some (de_var 3)))) (dps_cons (de_bin od_mul de_int (de_var 3)) (dps_cons (de_if (dt_cmp od_ge (de_var 4) (de_bin od_pow de_int de_int)) (de_var 4) de_int) dps_nil))) (by simp) (by decide)))) PassesOwn.never) (dss_one (ds_retM (dm_mv 2))))))
theorem sc_law_take : FnScope ["_law_draw", "_law_many", "_law_added", "_law_number", "_law_found", "_law_at_here", "_law_cells"] ["_law_draw", "_law_many"] (defScope s_law_take) := ⟨rfl, rfl, rfl, by decide +kernel, rfl, by decide +kernel, by decide +kernel⟩
theorem bd_law_take (T : Txt K mg) : Body P w K mg base 0 "_law_take" s_law_take ["_law_draw", "_law_many", "_law_added", "_law_number", "_law_found", "_law_at_here", "_law_cells"] [0] g_law_take := fun f cdv A outer s H vs E hg hr => (dss_cons (ds_store 0 hr de_str (de_bin od_add (de_ixPA 0 hr de_str) de_int)) (dss_cons (ds_if (dt_cmp od_gt (de_ixPA 0 hr de_str) de_int) (dss_cons (ds_set 4 sc_law_take.nd (de_bin od_mod (de_ixPA 0 hr de_str) (de_var 1))) (dss_cons (ds_store 0 hr de_str (de_bin od_fdv (de_ixPA 0 hr de_str) (de_var 1))) (dss_one (ds_ret (de_var 4))))) dss_nil) (dss_cons (ds_par2 5 6 sc_law_take.nd (da_cons (de_ixPA 0 hr de_str) (da_cons (de_ixPA 0 hr de_str) da_nil))) (dss_cons (ds_set 2 sc_law_take.nd (de_bin od_add (de_bin od_add (de_bin od_mul (de_bin od_mul de_int (de_var 5)) (de_var 5)) (de_bin od_mul de_int (de_var 5))) de_int)) (dss_cons (ds_set 3 sc_law_take.nd (de_bin od_add (de_bin od_mod (de_ixA hr (de_var 6) (de_bin od_mod (de_var 5) (de_callB cb_len T.b_len (da_cons (de_var 6) da_nil)))) de_int) (de_var 2))) (dss_cons (ds_set 3 sc_law_take.nd (de_bin od_mod (de_bin od_pow (de_var 3) de_int) de_int)) (dss_one (ds_ret (de_bin od_mod (de_bin od_fdv (de_bin od_mod (de_bin od_mul (de_var 3) de_int) de_int) de_int) (de_var 1))))))))))
theorem sc_law_book : FnScope ["_law_draw", "_law_letters_here", "_law_most", "_law_found", "_law_turn", "_law_ahead", "_law_letter", "_law_behind"] ["_law_draw", "_law_letters_here", "_law_most"] (defScope s_law_book) := ⟨rfl, rfl, rfl, by decide +kernel, rfl, by decide +kernel, by decide +kernel⟩
theorem bd_law_book (T : Txt K mg) (h__law_take : Has P w K mg base 1 "_law_take" ["_law_draw", "_law_many"] f_law_take) : Body P w K mg base 1 "_law_book" s_law_book ["_law_draw", "_law_letters_here", "_law_most", "_law_found", "_law_turn", "_law_ahead", "_law_letter", "_law_behind"] [0] g_law_book := fun f cdv A outer s H vs E hg hr => (dss_cons (ds_setM 3 sc_law_book.nd (dm_lst da_nil)) (dss_cons (ds_for (di_range1 T.b_range (da_cons (de_bin od_add de_int (de_callH h__law_take hg (hr.mono (by decide)) (dr_b 0 (dr_d (de_var 2) dr_nil)))) da_nil)) (dg_name 4 sc_law_book.nd) (dss_cons (ds_set 5 sc_law_book.nd (de_ixA hr (de_bin od_add (de_bin od_add (de_var 1) (de_var 1)) de_str) (de_callH h__law_take hg (hr.mono (by decide)) (dr_b 0 (dr_d (de_bin od_add (de_bin od_mul de_int (de_callB cb_len T.b_len (da_cons (de_var 1) da_nil))) de_int) dr_nil))))) (dss_cons (ds_set 6 sc_law_book.nd (de_ixA hr (de_var 1) (de_callH h__law_take hg (hr.mono (by decide)) (dr_b 0 (dr_d (de_callB cb_len T.b_len (da_cons (de_var 1) da_nil)) dr_nil))))) (dss_cons (ds_set 7 sc_law_book.nd (de_ixA hr (de_bin od_add (de_bin od_add (de_var 1) (de_var 1)) de_str) (de_callH h__law_take hg (hr.mono (by decide)) (dr_b 0 (dr_d (de_bin od_add (de_bin od_mul de_int (de_callB cb_len T.b_len (da_cons (de_var 1) da_nil))) de_int) dr_nil))))) (dss_one (ds_append 3 (de_tup (da_cons (de_var 5) (da_cons (de_var 6) (da_cons (de_var 7) (da_cons (de_ixA hr (de_lst (da_cons (de_callH h__law_take hg (hr.mono (by decide)) (dr_b 0 (dr_d de_int dr_nil))) (da_cons (de_callH h__law_take hg (hr.mono (by decide)) (dr_b 0 (dr_d de_int dr_nil))) da_nil))) (de_bin od_fdv (de_callH h__law_take hg (hr.mono (by decide)) (dr_b 0 (dr_d de_int dr_nil))) de_int)) da_nil)))))))))) PassesOwn.never) (dss_one (ds_ret (de_callT cb_tuple T.b_tuple (da_cons (de_var 3) da_nil))))))
theorem sc_law_letters : FnScope ["_law_draw", "_law_step", "_law_first", "_law_many", "_law_k"] ["_law_draw"] (defScope s_law_letters) := ⟨rfl, rfl, rfl, by decide +kernel, rfl, by decide +kernel, by decide +kernel⟩
theorem bd_law_letters (T : Txt K mg) (h__law_take : Has P w K mg base 1 "_law_take" ["_law_draw", "_law_many"] f_law_take) : Body P w K mg base 1 "_law_letters" s_law_letters ["_law_draw", "_law_step", "_law_first", "_law_many", "_law_k"] [0] g_law_letters := fun f cdv A outer s H vs E hg hr => (dss_cons (ds_set 1 sc_law_letters.nd (de_ixA hr (de_lst (da_cons de_int (da_cons de_int (da_cons de_int (da_cons de_int (da_cons de_int (da_cons de_int (da_cons de_int (da_cons de_int (da_cons de_int (da_cons de_int (da_cons de_int (da_cons de_int da_nil))))))))))))) (de_callH h__law_take hg (hr.mono (by decide)) (dr_b 0 (dr_d de_int dr_nil))))) (dss_cons (ds_asg (de_tup (da_cons (de_callH h__law_take hg (hr.mono (by decide)) (dr_b 0 (dr_d de_int dr_nil))) (da_cons (de_bin od_add de_int (de_callH h__law_take hg (hr.mono (by decide)) (dr_b 0 (dr_d de_int dr_nil)))) da_nil))) (dg_tup (dgs_cons (dg_name 2 sc_law_letters.nd) (dgs_cons (dg_name 3 sc_law_letters.nd) dgs_nil))) (nx_tup (nx_cons (nx_name 2) (nx_cons (nx_name 3) nx_nil)))) (dss_one (ds_ret (de_join (de_comp [("_law_k", 4)] sc_law_letters.nd (di_range1 T.b_range (da_cons (de_var 3) da_nil)) (blkOk_by (by kernel_rfl)) (fun _ _ _ _ _ => (dg_name 4 sc_law_letters.nd)) (fun _ _ _ _ _ => dts_nil) (fun _ _ _ _ _ => (de_ixA hr de_str (de_bin od_mod (de_bin od_add (de_var 2) (de_bin od_mul (de_var 1) (de_var 4))) de_int)))))))))
theorem sc_law_word : FnScope ["_law_draw", "_law_letters_here", "_law_most", "_law_k"] ["_law_draw", "_law_letters_here", "_law_most"] (defScope s_law_word) := ⟨rfl, rfl, rfl, by decide +kernel, rfl, by decide +kernel, by decide +kernel⟩
theorem bd_law_word (T : Txt K mg) (h__law_take : Has P w K mg base 1 "_law_take" ["_law_draw", "_law_many"] f_law_take) : Body P w K mg base 1 "_law_word" s_law_word ["_law_draw", "_law_letters_here", "_law_most", "_law_k"] [0] g_law_word := fun f cdv A outer s H vs E hg hr => (dss_one (ds_ret (de_join (de_comp [("_law_k", 3)] sc_law_word.nd (di_range1 T.b_range (da_cons (de_callH h__law_take hg (hr.mono (by decide)) (dr_b 0 (dr_d (de_bin od_add (de_var 2) de_int) dr_nil))) da_nil)) (blkOk_by (by kernel_rfl)) (fun _ _ _ _ _ => (dg_name 3 sc_law_word.nd)) (fun _ _ _ _ _ => dts_nil) (fun _ _ _ _ _ => (de_ixA hr (de_var 1) (de_callH h__law_take hg (hr.mono (by decide)) (dr_b 0 (dr_d (de_callB cb_len T.b_len (da_cons (de_var 1) da_nil)) dr_nil)))))))))
theorem sc_law_cost : FnScope ["_law_own_book", "_law_a", "_law_x", "_law_b", "_law_some", "_law_rule"] ["_law_own_book", "_law_a", "_law_x", "_law_b"] (defScope s_law_cost) := ⟨rfl, rfl, rfl, by decide +kernel, rfl, by decide +kernel, by decide +kernel⟩
theorem bd_law_cost (T : Txt K mg) : Body P w K mg base 0 "_law_cost" s_law_cost ["_law_own_book", "_law_a", "_law_x", "_law_b", "_law_some", "_law_rule"] [] g_law_cost := fun f cdv A outer s H vs E hg hr => (dss_cons (ds_setLc 4 [("_law_rule", 5)] sc_law_cost.nd (di_any (de_var 0)) (blkOk_by (by kernel_rfl)) (fun _ _ _ _ _ => (dg_name 5 sc_law_cost.nd)) (fun _ _ _ _ _ => (dts_one (dt_w (dw_and (dt_cmp (od_eqA hr) (de_ixA hr (de_var 5) de_int) (de_var 2)) (dw_and (dt_cmp (od_inA hr) (de_ixA hr (de_var 5) de_int) (de_tup (da_cons (de_var 1) (da_cons de_str da_nil)))) (dw_and1 (dt_cmp (od_inA hr) (de_ixA hr (de_var 5) de_int) (de_tup (da_cons (de_var 3) (da_cons de_str da_nil)))))))))) (fun _ _ _ _ _ => (de_ixA hr (de_var 5) de_int)) (sw_true rfl rfl rfl rfl)) (dss_one (ds_ret (de_minDf (de_var 4) T.b_min))))
theorem sc_law_at : FnScope ["_law_own_word", "_law_k"] ["_law_own_word", "_law_k"] (defScope s_law_at) := ⟨rfl, rfl, rfl, by decide +kernel, rfl, by decide +kernel, by decide +kernel⟩
theorem bd_law_at (T : Txt K mg) : Body P w K mg base 0 "_law_at" s_law_at ["_law_own_word", "_law_k"] [] g_law_at := fun f cdv A outer s H vs E hg hr => (dss_one (ds_ret (de_if (dt_cmp od_lt (de_var 1) de_int) de_str (de_if (dt_cmp od_ge (de_var 1) (de_callB cb_len T.b_len (da_cons (de_var 0) da_nil))) de_str (de_ixA hr (de_var 0) (de_var 1))))))
theorem sc_law_goes : FnScope ["_law_own_word", "_law_own_book", "_law_k", "_law_own_p", "_law_own_q"] ["_law_own_word", "_law_own_book", "_law_k", "_law_own_p", "_law_own_q"] (defScope s_law_goes) := ⟨rfl, rfl, rfl, by decide +kernel, rfl, by decide +kernel, by decide +kernel⟩
theorem bd_law_goes (T : Txt K mg) (h__law_cost : Has P w K mg base 1 "_law_cost" ["_law_own_book", "_law_a", "_law_x", "_law_b"] f_law_cost) (h__law_at : Has P w K mg base 1 "_law_at" ["_law_own_word", "_law_k"] f_law_at) : Body P w K mg base 1 "_law_goes" s_law_goes ["_law_own_word", "_law_own_book", "_law_k", "_law_own_p", "_law_own_q"] [] g_law_goes := fun f cdv A outer s H vs E hg hr => (dss_one (ds_ret (de_cmp od_isn (de_callH h__law_cost hg (hr.mono (by decide)) (dr_d (de_var 1) (dr_d (de_callH h__law_at hg (hr.mono (by decide)) (dr_d (de_var 0) (dr_d (de_var 3) dr_nil))) (dr_d (de_callH h__law_at hg (hr.mono (by decide)) (dr_d (de_var 0) (dr_d (de_var 2) dr_nil))) (dr_d (de_callH h__law_at hg (hr.mono (by decide)) (dr_d (de_var 0) (dr_d (de_var 4) dr_nil))) dr_nil))))) de_non)))
theorem sc_law_all_gaps : FnScope ["_law_many", "_law_found", "_law_own_p", "_law_own_q"] ["_law_many"] (defScope s_law_all_gaps) := ⟨rfl, rfl, rfl, by decide +kernel, rfl, by decide +kernel, by decide +kernel⟩
theorem bd_law_all_gaps (T : Txt K mg) : Body P w K mg base 0 "_law_all_gaps" s_law_all_gaps ["_law_many", "_law_found", "_law_own_p", "_law_own_q"] [] g_law_all_gaps := fun f cdv A outer s H vs E hg hr => (dss_cons (ds_set 1 sc_law_all_gaps.nd (de_lst da_nil)) (dss_cons (ds_for (di_range2 T.b_range (da_cons (de_bin od_sub de_int de_int) (da_cons (de_var 0) da_nil))) (dg_name 2 sc_law_all_gaps.nd) (dss_one (ds_set 1 sc_law_all_gaps.nd (de_bin od_add (de_var 1) (de_comp [("_law_own_q", 3)] sc_law_all_gaps.nd (di_range2 T.b_range (da_cons (de_bin od_add (de_var 2) de_int) (da_cons (de_bin od_add (de_var 0) de_int) da_nil))) (blkOk_by (by kernel_rfl)) (fun _ _ _ _ _ => (dg_name 3 sc_law_all_gaps.nd)) (fun _ _ _ _ _ => dts_nil) (fun _ _ _ _ _ => (de_tup (da_cons (de_var 2) (da_cons (de_var 3) da_nil)))))))) PassesOwn.never) (dss_one (ds_ret (de_var 1)))))
theorem sc_law_right : FnScope ["_law_own_word", "_law_own_book", "_law_own_p", "_law_own_q", "_law_first", "_law_last", "_law_told", "_law_due", "_law_k"] ["_law_own_word", "_law_own_book", "_law_own_p", "_law_own_q"] (defScope s_law_right) := ⟨rfl, rfl, rfl, by decide +kernel, rfl, by decide +kernel, by decide +kernel⟩
theorem bd_law_right (T : Txt K mg) (h__law_goes : Has P w K mg base 2 "_law_goes" ["_law_own_word", "_law_own_book", "_law_k", "_law_own_p", "_law_own_q"] f_law_goes) (h_clears : Has P w K mg base 7 "clears" ["word", "book", "p", "q"] fclears) (h_may_first : Has P w K mg base 6 "may_first" ["word", "book", "p", "q"] fmay_first) (h_may_last : Has P w K mg base 7 "may_last" ["word", "book", "p", "q"] fmay_last) (k_may_first_0_q_p_book_word : HasK P w K mg base 6 "may_first" ["word", "book", "p", "q"] fmay_first 0 ["q", "p", "book", "word"] [.inl 3, .inl 2, .inl 1, .inl 0] []) (k_may_last_0_q_p_book_word : HasK P w K mg base 7 "may_last" ["word", "book", "p", "q"] fmay_last 0 ["q", "p", "book", "word"] [.inl 3, .inl 2, .inl 1, .inl 0] []) : Body P w K mg base 7 "_law_right" s_law_right ["_law_own_word", "_law_own_book", "_law_own_p", "_law_own_q", "_law_first", "_law_last", "_law_told", "_law_due", "_law_k"] [] g_law_right := fun f cdv A outer s H vs E hg hr => (dss_cons (ds_setLc 4 [("_law_k", 8)] sc_law_right.nd (di_range2 T.b_range (da_cons (de_bin od_add (de_var 2) de_int) (da_cons (de_var 3) da_nil))) (blkOk_by (by kernel_rfl)) (fun _ _ _ _ _ => (dg_name 8 sc_law_right.nd)) (fun _ _ _ _ _ => (dts_one (dt_val (de_callH h__law_goes hg (hr.mono (by decide)) (dr_d (de_var 0) (dr_d (de_var 1) (dr_d (de_var 8) (dr_d (de_bin od_sub (de_var 8) de_int) (dr_d (de_bin od_add (de_var 8) de_int) dr_nil))))))))) (fun _ _ _ _ _ => (de_var 8)) (sw_true rfl rfl rfl rfl)) (dss_cons (ds_setLc 5 [("_law_k", 8)] sc_law_right.nd (di_range2 T.b_range (da_cons (de_bin od_add (de_var 2) de_int) (da_cons (de_var 3) da_nil))) (blkOk_by (by kernel_rfl)) (fun _ _ _ _ _ => (dg_name 8 sc_law_right.nd)) (fun _ _ _ _ _ => (dts_one (dt_val (de_callH h__law_goes hg (hr.mono (by decide)) (dr_d (de_var 0) (dr_d (de_var 1) (dr_d (de_var 8) (dr_d (de_var 2) (dr_d (de_var 3) dr_nil))))))))) (fun _ _ _ _ _ => (de_var 8)) (sw_true rfl rfl rfl rfl)) (dss_cons (ds_setLc 5 [("_law_k", 8)] sc_law_right.nd (di_any (de_var 5)) (blkOk_by (by kernel_rfl)) (fun _ _ _ _ _ => (dg_name 8 sc_law_right.nd)) (fun _ _ _ _ _ => (dts_one (dt_w (dw_and (dt_val (de_callH h_clears hg (hr.mono (by decide)) (dr_d (de_var 0) (dr_d (de_var 1) (dr_d (de_var 2) (dr_d (de_var 8) dr_nil)))))) (dw_and1 (dt_val (de_callH h_clears hg (hr.mono (by decide)) (dr_d (de_var 0) (dr_d (de_var 1) (dr_d (de_var 8) (dr_d (de_var 3) dr_nil))))))))))) (fun _ _ _ _ _ => (de_var 8)) (sw_true rfl rfl rfl rfl)) (dss_cons (ds_set 6 sc_law_right.nd (de_lst (da_cons (de_callH h_may_first hg (hr.mono (by decide)) (dr_d (de_var 0) (dr_d (de_var 1) (dr_d (de_var 2) (dr_d (de_var 3) dr_nil))))) (da_cons (de_callHK0 k_may_first_0_q_p_book_word hg (hr.mono (by decide)) (dk_cons (de_var 3) (dk_cons (de_var 2) (dk_cons (de_var 1) (dk_cons (de_var 0) dk_nil))))) da_nil)))) (dss_cons (ds_if (dt_cmp (od_ne hr) (de_callB (cb_repr hg hr) T.b_repr (da_cons (de_var 6) da_nil)) (de_callB (cb_repr hg hr) T.b_repr (da_cons (de_rep (da_cons (de_callT cb_tuple T.b_tuple (da_cons (de_var 4) da_nil)) da_nil) de_int) da_nil))) (dss_one (ds_ret de_bl)) dss_nil) (dss_cons (ds_set 6 sc_law_right.nd (de_lst (da_cons (de_callH h_may_last hg (hr.mono (by decide)) (dr_d (de_var 0) (dr_d (de_var 1) (dr_d (de_var 2) (dr_d (de_var 3) dr_nil))))) (da_cons (de_callHK0 k_may_last_0_q_p_book_word hg (hr.mono (by decide)) (dk_cons (de_var 3) (dk_cons (de_var 2) (dk_cons (de_var 1) (dk_cons (de_var 0) dk_nil))))) da_nil)))) (dss_cons (ds_if (dt_cmp (od_ne hr) (de_callB (cb_repr hg hr) T.b_repr (da_cons (de_var 6) da_nil)) (de_callB (cb_repr hg hr) T.b_repr (da_cons (de_rep (da_cons (de_callT cb_tuple T.b_tuple (da_cons (de_var 5) da_nil)) da_nil) de_int) da_nil))) (dss_one (ds_ret de_bl)) dss_nil) (dss_cons (ds_if (dt_cmp (od_eqA hr) (de_var 3) (de_bin od_add (de_var 2) de_int)) (dss_one (ds_ret (de_cmp od_is (de_callH h_clears hg (hr.mono (by decide)) (dr_d (de_var 0) (dr_d (de_var 1) (dr_d (de_var 2) (dr_d (de_var 3) dr_nil))))) de_bl))) dss_nil) (dss_cons (ds_set 7 sc_law_right.nd (de_callB cb_any T.b_any (da_cons (de_comp [("_law_k", 8)] sc_law_right.nd (di_any (de_var 4)) (blkOk_by (by kernel_rfl)) (fun _ _ _ _ _ => (dg_name 8 sc_law_right.nd)) (fun _ _ _ _ _ => dts_nil) (fun _ _ _ _ _ => (de_callH h_clears hg (hr.mono (by decide)) (dr_d (de_bin od_add (de_sl (de_var 0) do_none (do_some (de_var 8))) (de_sl (de_var 0) (do_some (de_bin od_add (de_var 8) de_int)) do_none)) (dr_d (de_var 1) (dr_d (de_var 2) (dr_d (de_bin od_sub (de_var 3) de_int) dr_nil))))))) da_nil))) (dss_one (ds_ret (de_cmp (od_eqA hr) (de_callB (cb_repr hg hr) T.b_repr (da_cons (de_lst (da_cons (de_callH h_clears hg (hr.mono (by decide)) (dr_d (de_var 0) (dr_d (de_var 1) (dr_d (de_var 2) (dr_d (de_var 3) dr_nil))))) (da_cons (de_var 7) da_nil))) da_nil)) (de_callB (cb_repr hg hr) T.b_repr (da_cons (de_rep (da_cons (de_cmp (od_ne hr) (de_var 5) (de_lst da_nil)) da_nil) de_int) da_nil))))))))))))))
theorem sclaw : FnScope ["_law_script", "_law_draw", "_law_letters_here", "_law_own_book", "_law_own_word", "_law_own_p", "_law_own_q"] ["_law_script"] (defScope slaw) := ⟨rfl, rfl, rfl, by decide +kernel, rfl, by decide +kernel, by decide +kernel⟩
theorem bdlaw (T : Txt K mg) (h__law_draws : Has P w K mg base 1 "_law_draws" ["_law_script"] f_law_draws) (h__law_letters : Has P w K mg base 2 "_law_letters" ["_law_draw"] f_law_letters) (h__law_word : Has P w K mg base 2 "_law_word" ["_law_draw", "_law_letters_here", "_law_most"] f_law_word) (h__law_book : Has P w K mg base 2 "_law_book" ["_law_draw", "_law_letters_here", "_law_most"] f_law_book) (h__law_all_gaps : Has P w K mg base 1 "_law_all_gaps" ["_law_many"] f_law_all_gaps) (h__law_right : Has P w K mg base 8 "_law_right" ["_law_own_word", "_law_own_book", "_law_own_p", "_law_own_q"] f_law_right) : Body P w K mg base 8 "law" slaw ["_law_script", "_law_draw", "_law_letters_here", "_law_own_book", "_law_own_word", "_law_own_p", "_law_own_q"] [] glaw := fun f cdv A outer s H vs E hg hr => (dss_cons (ds_forM 1 sclaw.nd (dm_callH h__law_draws hg (hr.mono (by decide)) (dr_d (de_var 0) dr_nil)) (dss_cons (ds_set 2 sclaw.nd (de_callH h__law_letters hg (hr.mono (by decide)) (dr_b 1 dr_nil))) (dss_cons (ds_asg (de_tup (da_cons (de_callH h__law_book hg (hr.mono (by decide)) (dr_b 1 (dr_d (de_var 2) (dr_d de_int dr_nil)))) (da_cons (de_callH h__law_word hg (hr.mono (by decide)) (dr_b 1 (dr_d (de_var 2) (dr_d de_int dr_nil)))) da_nil))) (dg_tup (dgs_cons (dg_name 3 sclaw.nd) (dgs_cons (dg_name 4 sclaw.nd) dgs_nil))) (nx_tup (nx_cons (nx_name 3) (nx_cons (nx_name 4) nx_nil)))) (dss_one (ds_if (dt_not (dt_val (de_callB cb_all T.b_all (da_cons (de_comp [("_law_own_p", 5), ("_law_own_q", 6)] sclaw.nd (di_any (de_callH h__law_all_gaps hg (hr.mono (by decide)) (dr_d (de_callB cb_len T.b_len (da_cons (de_var 4) da_nil)) dr_nil))) (blkOk_by (by kernel_rfl)) (fun _ _ _ _ _ => (dg_tup (dgs_cons (dg_name 5 sclaw.nd) (dgs_cons (dg_name 6 sclaw.nd) dgs_nil)))) (fun _ _ _ _ _ => dts_nil) (fun _ _ _ _ _ => (de_callH h__law_right hg (hr.mono (by decide)) (dr_d (de_var 4) (dr_d (de_var 3) (dr_d (de_var 5) (dr_d (de_var 6) dr_nil))))))) da_nil)))) (dss_one (ds_ret de_bl)) dss_nil)))) PassesOwn.never) (dss_one (ds_ret de_bl)))
end
section
variable {P : Program} {w : World} {K : PySem.W.Frag} {mg : Str → Option Value} {base : Heap}
theorem all_ok (T : Txt K mg) (Fis_whole : FunDAt K mg "is_whole" sis_whole [("least", flatOf (.int 0)), ("most", flatOf (.int 120))]) (Fis_letter : FunAt K mg "is_letter" sis_letter) (Fneed_word : FunAt K mg "need_word" sneed_word) (Fis_side : FunAt K mg "is_side" sis_side) (Frule_looks : FunAt K mg "rule_looks" srule_looks) (Fneed_book : FunAt K mg "need_book" sneed_book) (Fneed_gap : FunAt K mg "need_gap" sneed_gap) (Fneed_all : FunAt K mg "need_all" sneed_all) (FFits___init__ : ClsAt K mg "Fits" "Fits.__init__" sFits___init__) (FGaps___init__ : ClsAt K mg "Gaps" "Gaps.__init__" sGaps___init__) (FFits_cost : MethAt K "Fits" "cost" "Fits.cost" sFits_cost) (FGaps_cost : MethAt K "Gaps" "cost" "Gaps.cost" sGaps_cost) (FGaps_is_open : MethAt K "Gaps" "is_open" "Gaps.is_open" sGaps_is_open) (FGaps_look : MethAt K "Gaps" "look" "Gaps.look" sGaps_look) (FGaps_look_within : MethAt K "Gaps" "look_within" "Gaps.look_within" sGaps_look_within) (Fgaps_within : FunAt K mg "gaps_within" sgaps_within) (Fclears : FunAt K mg "clears" sclears) (Fmay_first : FunAt K mg "may_first" smay_first) (Fmay_last : FunAt K mg "may_last" smay_last) (F_law_draws : FunAt K mg "_law_draws" s_law_draws) (F_law_take : FunAt K mg "_law_take" s_law_take) (F_law_book : FunAt K mg "_law_book" s_law_book) (F_law_letters : FunAt K mg "_law_letters" s_law_letters) (F_law_word : FunAt K mg "_law_word" s_law_word) (F_law_cost : FunAt K mg "_law_cost" s_law_cost) (F_law_at : FunAt K mg "_law_at" s_law_at) (F_law_goes : FunAt K mg "_law_goes" s_law_goes) (F_law_all_gaps : FunAt K mg "_law_all_gaps" s_law_all_gaps) (F_law_right : FunAt K mg "_law_right" s_law_right) : Body P w K mg base 8 "law" slaw ["_law_script", "_law_draw", "_law_letters_here", "_law_own_book", "_law_own_word", "_law_own_p", "_law_own_q"] [] glaw := by
  have B_is_whole := bdis_whole (P := P) (w := w) (K := K) (base := base) T 
  have k_is_whole_1_most : HasK P w K mg base 1 "is_whole" ["thing", "least", "most"] fis_whole 1 ["most"] [.inl 0, .inr 0, .inl 1] [.int 0] := hasD_of (ms := [("least", .int 0)]) Fis_whole scis_whole B_is_whole (by simp) (fun q hq => by simp at hq; simp [hq]) rfl rfl fun D doc pm an cdv ct us ws mv l1 l2 l3 => match us, ws, mv, l1, l2, l3 with | [_], [_], [_], _, _, _ => ⟨_, _, _, _, _, _, rfl, rfl, rfl⟩
  have k_is_whole_1_least_most : HasK P w K mg base 1 "is_whole" ["thing", "least", "most"] fis_whole 1 ["least", "most"] [.inl 0, .inl 1, .inl 2] [] := hasD_of (ms := []) Fis_whole scis_whole B_is_whole (by simp) (fun q hq => by cases hq) rfl rfl fun D doc pm an cdv ct us ws mv l1 l2 l3 => match us, ws, mv, l1, l2, l3 with | [_], [_, _], [], _, _, _ => rfl
  have B_is_letter := bdis_letter (P := P) (w := w) (K := K) (base := base) T 
  have h_is_letter : Has P w K mg base 1 "is_letter" ["thing"] fis_letter := has_of Fis_letter scis_letter B_is_letter fun _ _ _ _ _ _ us hl => match us, hl with | [_], _ => rfl
  have B_need_word := bdneed_word (P := P) (w := w) (K := K) (base := base) T 
  have h_need_word : Has P w K mg base 1 "need_word" ["thing"] fneed_word := has_of Fneed_word scneed_word B_need_word fun _ _ _ _ _ _ us hl => match us, hl with | [_], _ => rfl
  have B_is_side := bdis_side (P := P) (w := w) (K := K) (base := base) T h_is_letter
  have h_is_side : Has P w K mg base 2 "is_side" ["thing", "end"] fis_side := has_of Fis_side scis_side B_is_side fun _ _ _ _ _ _ us hl => match us, hl with | [_, _], _ => rfl
  have B_rule_looks := bdrule_looks (P := P) (w := w) (K := K) (base := base) T h_is_side h_is_letter k_is_whole_1_most
  have h_rule_looks : Has P w K mg base 3 "rule_looks" ["thing"] frule_looks := has_of Frule_looks scrule_looks B_rule_looks fun _ _ _ _ _ _ us hl => match us, hl with | [_], _ => rfl
  have B_need_book := bdneed_book (P := P) (w := w) (K := K) (base := base) T h_rule_looks
  have h_need_book : Has P w K mg base 4 "need_book" ["thing"] fneed_book := has_of Fneed_book scneed_book B_need_book fun _ _ _ _ _ _ us hl => match us, hl with | [_], _ => rfl
  have B_need_gap := bdneed_gap (P := P) (w := w) (K := K) (base := base) T k_is_whole_1_least_most
  have h_need_gap : Has P w K mg base 2 "need_gap" ["word", "p", "q"] fneed_gap := has_of Fneed_gap scneed_gap B_need_gap fun _ _ _ _ _ _ us hl => match us, hl with | [_, _, _], _ => rfl
  have B_need_all := bdneed_all (P := P) (w := w) (K := K) (base := base) T h_need_word h_need_book h_need_gap
  have h_need_all : Has P w K mg base 5 "need_all" ["word", "book", "p", "q"] fneed_all := has_of Fneed_all scneed_all B_need_all fun _ _ _ _ _ _ us hl => match us, hl with | [_, _, _, _], _ => rfl
  have B_Fits___init__ := bdFits___init__ (P := P) (w := w) (K := K) (base := base) T 
  have h_Fits___init__ : HasC P w K mg base 1 "Fits" ["self", "book"] fFits___init__ := hasC_of FFits___init__ scFits___init__ B_Fits___init__ fun _ _ _ _ _ _ us hl => match us, hl with | [_, _], _ => rfl
  have B_Gaps___init__ := bdGaps___init__ (P := P) (w := w) (K := K) (base := base) T 
  have h_Gaps___init__ : HasC P w K mg base 1 "Gaps" ["self", "word", "fits"] fGaps___init__ := hasC_of FGaps___init__ scGaps___init__ B_Gaps___init__ fun _ _ _ _ _ _ us hl => match us, hl with | [_, _, _], _ => rfl
  have B_Fits_cost := bdFits_cost (P := P) (w := w) (K := K) (base := base) T 
  have h_Fits_cost : HasM P w K mg base 1 "Fits" "cost" ["self", "ahead", "letter", "behind"] fFits_cost := hasM_of FFits_cost scFits_cost B_Fits_cost fun _ _ _ _ _ _ us hl => match us, hl with | [_, _, _, _], _ => rfl
  have B_Gaps_cost := bdGaps_cost (P := P) (w := w) (K := K) (base := base) T h_Fits_cost
  have h_Gaps_cost : HasM P w K mg base 2 "Gaps" "cost" ["self", "place", "p", "q"] fGaps_cost := hasM_of FGaps_cost scGaps_cost B_Gaps_cost fun _ _ _ _ _ _ us hl => match us, hl with | [_, _, _, _], _ => rfl
  have B_Gaps_is_open := bdGaps_is_open (P := P) (w := w) (K := K) (base := base) T 
  have h_Gaps_is_open : HasM P w K mg base 1 "Gaps" "is_open" ["self", "p", "q"] fGaps_is_open := hasM_of FGaps_is_open scGaps_is_open B_Gaps_is_open fun _ _ _ _ _ _ us hl => match us, hl with | [_, _, _], _ => rfl
  have B_Gaps_look := bdGaps_look (P := P) (w := w) (K := K) (base := base) T h_Gaps_cost h_Gaps_is_open
  have h_Gaps_look : HasM P w K mg base 3 "Gaps" "look" ["self", "p", "q"] fGaps_look := hasM_of FGaps_look scGaps_look B_Gaps_look fun _ _ _ _ _ _ us hl => match us, hl with | [_, _, _], _ => rfl
  have B_Gaps_look_within := bdGaps_look_within (P := P) (w := w) (K := K) (base := base) T h_Gaps_look
  have h_Gaps_look_within : HasM P w K mg base 4 "Gaps" "look_within" ["self", "p", "q"] fGaps_look_within := hasM_of FGaps_look_within scGaps_look_within B_Gaps_look_within fun _ _ _ _ _ _ us hl => match us, hl with | [_, _, _], _ => rfl
  have B_gaps_within := bdgaps_within (P := P) (w := w) (K := K) (base := base) T h_need_all h_Gaps___init__ h_Fits___init__ h_Gaps_look_within
  have h_gaps_within : Has P w K mg base 6 "gaps_within" ["word", "book", "p", "q"] fgaps_within := has_of Fgaps_within scgaps_within B_gaps_within fun _ _ _ _ _ _ us hl => match us, hl with | [_, _, _, _], _ => rfl
  have B_clears := bdclears (P := P) (w := w) (K := K) (base := base) T h_Gaps_is_open h_gaps_within
  have h_clears : Has P w K mg base 7 "clears" ["word", "book", "p", "q"] fclears := has_of Fclears scclears B_clears fun _ _ _ _ _ _ us hl => match us, hl with | [_, _, _, _], _ => rfl
  have B_may_first := bdmay_first (P := P) (w := w) (K := K) (base := base) T h_need_all h_Gaps___init__ h_Fits___init__ h_Gaps_cost
  have h_may_first : Has P w K mg base 6 "may_first" ["word", "book", "p", "q"] fmay_first := has_of Fmay_first scmay_first B_may_first fun _ _ _ _ _ _ us hl => match us, hl with | [_, _, _, _], _ => rfl
  have k_may_first_0_q_p_book_word : HasK P w K mg base 6 "may_first" ["word", "book", "p", "q"] fmay_first 0 ["q", "p", "book", "word"] [.inl 3, .inl 2, .inl 1, .inl 0] [] := hasK_of Fmay_first scmay_first B_may_first rfl fun _ _ _ _ _ _ us ws l1 l2 => match us, ws, l1, l2 with | [], [_, _, _, _], _, _ => rfl
  have B_may_last := bdmay_last (P := P) (w := w) (K := K) (base := base) T h_gaps_within
  have h_may_last : Has P w K mg base 7 "may_last" ["word", "book", "p", "q"] fmay_last := has_of Fmay_last scmay_last B_may_last fun _ _ _ _ _ _ us hl => match us, hl with | [_, _, _, _], _ => rfl
  have k_may_last_0_q_p_book_word : HasK P w K mg base 7 "may_last" ["word", "book", "p", "q"] fmay_last 0 ["q", "p", "book", "word"] [.inl 3, .inl 2, .inl 1, .inl 0] [] := hasK_of Fmay_last scmay_last B_may_last rfl fun _ _ _ _ _ _ us ws l1 l2 => match us, ws, l1, l2 with | [], [_, _, _, _], _, _ => rfl
  have B__law_draws := bd_law_draws (P := P) (w := w) (K := K) (base := base) T 
  have h__law_draws : Has P w K mg base 1 "_law_draws" ["_law_script"] f_law_draws := has_of F_law_draws sc_law_draws B__law_draws fun _ _ _ _ _ _ us hl => match us, hl with | [_], _ => rfl
  have B__law_take := bd_law_take (P := P) (w := w) (K := K) (base := base) T 
  have h__law_take : Has P w K mg base 1 "_law_take" ["_law_draw", "_law_many"] f_law_take := has_of F_law_take sc_law_take B__law_take fun _ _ _ _ _ _ us hl => match us, hl with | [_, _], _ => rfl
  have B__law_book := bd_law_book (P := P) (w := w) (K := K) (base := base) T h__law_take
  have h__law_book : Has P w K mg base 2 "_law_book" ["_law_draw", "_law_letters_here", "_law_most"] f_law_book := has_of F_law_book sc_law_book B__law_book fun _ _ _ _ _ _ us hl => match us, hl with | [_, _, _], _ => rfl
  have B__law_letters := bd_law_letters (P := P) (w := w) (K := K) (base := base) T h__law_take
  have h__law_letters : Has P w K mg base 2 "_law_letters" ["_law_draw"] f_law_letters := has_of F_law_letters sc_law_letters B__law_letters fun _ _ _ _ _ _ us hl => match us, hl with | [_], _ => rfl
  have B__law_word := bd_law_word (P := P) (w := w) (K := K) (base := base) T h__law_take
  have h__law_word : Has P w K mg base 2 "_law_word" ["_law_draw", "_law_letters_here", "_law_most"] f_law_word := has_of F_law_word sc_law_word B__law_word fun _ _ _ _ _ _ us hl => match us, hl with | [_, _, _], _ => rfl
  have B__law_cost := bd_law_cost (P := P) (w := w) (K := K) (base := base) T 
  have h__law_cost : Has P w K mg base 1 "_law_cost" ["_law_own_book", "_law_a", "_law_x", "_law_b"] f_law_cost := has_of F_law_cost sc_law_cost B__law_cost fun _ _ _ _ _ _ us hl => match us, hl with | [_, _, _, _], _ => rfl
  have B__law_at := bd_law_at (P := P) (w := w) (K := K) (base := base) T 
  have h__law_at : Has P w K mg base 1 "_law_at" ["_law_own_word", "_law_k"] f_law_at := has_of F_law_at sc_law_at B__law_at fun _ _ _ _ _ _ us hl => match us, hl with | [_, _], _ => rfl
  have B__law_goes := bd_law_goes (P := P) (w := w) (K := K) (base := base) T h__law_cost h__law_at
  have h__law_goes : Has P w K mg base 2 "_law_goes" ["_law_own_word", "_law_own_book", "_law_k", "_law_own_p", "_law_own_q"] f_law_goes := has_of F_law_goes sc_law_goes B__law_goes fun _ _ _ _ _ _ us hl => match us, hl with | [_, _, _, _, _], _ => rfl
  have B__law_all_gaps := bd_law_all_gaps (P := P) (w := w) (K := K) (base := base) T 
  have h__law_all_gaps : Has P w K mg base 1 "_law_all_gaps" ["_law_many"] f_law_all_gaps := has_of F_law_all_gaps sc_law_all_gaps B__law_all_gaps fun _ _ _ _ _ _ us hl => match us, hl with | [_], _ => rfl
  have B__law_right := bd_law_right (P := P) (w := w) (K := K) (base := base) T h__law_goes h_clears h_may_first h_may_last k_may_first_0_q_p_book_word k_may_last_0_q_p_book_word
  have h__law_right : Has P w K mg base 8 "_law_right" ["_law_own_word", "_law_own_book", "_law_own_p", "_law_own_q"] f_law_right := has_of F_law_right sc_law_right B__law_right fun _ _ _ _ _ _ us hl => match us, hl with | [_, _, _, _], _ => rfl
  have B_law := bdlaw (P := P) (w := w) (K := K) (base := base) T h__law_draws h__law_letters h__law_word h__law_book h__law_all_gaps h__law_right
  exact B_law
end
end FDL

namespace FDL
open PySem L2 FD
theorem con_int {mg : Str → Option Value} {x : Str} {i : Int} {t : Tok} (h : mg x = some (.int i t)) : Con mg x (.int i) := ⟨rfl, _, h, ⟨t, rfl⟩⟩
theorem con_str {mg : Str → Option Value} {x s : Str} {t : Tok} (h : mg x = some (.str s t)) : Con mg x (.str s) := ⟨rfl, _, h, ⟨t, rfl⟩⟩
theorem all_mk {l : PySem.W.OpenLaw} {w : World} {K : PySem.W.Frag} {h : Heap} {mg : Str → Option Value} {fa : Addr} {C_Fits : Addr} {C_Gaps : Addr} {f0 : Addr} {oc0 dc0 pm0 cd0 ct0 : Value} {od0 an0 : Option Addr} {sl0 : Array (Option Value)} {D0 : Addr} {t0_0 : Tok} {t0_1 : Tok} {f1 : Addr} {oc1 kV1 dc1 pm1 cd1 ct1 : Value} {od1 an1 : Option Addr} {sl1 : Array (Option Value)} {f2 : Addr} {oc2 kV2 dc2 pm2 cd2 ct2 : Value} {od2 an2 : Option Addr} {sl2 : Array (Option Value)} {f3 : Addr} {oc3 kV3 dc3 pm3 cd3 ct3 : Value} {od3 an3 : Option Addr} {sl3 : Array (Option Value)} {f4 : Addr} {oc4 kV4 dc4 pm4 cd4 ct4 : Value} {od4 an4 : Option Addr} {sl4 : Array (Option Value)} {f5 : Addr} {oc5 kV5 dc5 pm5 cd5 ct5 : Value} {od5 an5 : Option Addr} {sl5 : Array (Option Value)} {f6 : Addr} {oc6 kV6 dc6 pm6 cd6 ct6 : Value} {od6 an6 : Option Addr} {sl6 : Array (Option Value)} {f7 : Addr} {oc7 kV7 dc7 pm7 cd7 ct7 : Value} {od7 an7 : Option Addr} {sl7 : Array (Option Value)} {f8 : Addr} {oc8 kV8 dc8 pm8 cd8 ct8 : Value} {od8 an8 : Option Addr} {sl8 : Array (Option Value)} {f9 : Addr} {oc9 kV9 dc9 pm9 cd9 ct9 : Value} {od9 an9 : Option Addr} {sl9 : Array (Option Value)} {f10 : Addr} {oc10 kV10 dc10 pm10 cd10 ct10 : Value} {od10 an10 : Option Addr} {sl10 : Array (Option Value)} {f11 : Addr} {oc11 kV11 dc11 pm11 cd11 ct11 : Value} {od11 an11 : Option Addr} {sl11 : Array (Option Value)} {f12 : Addr} {oc12 kV12 dc12 pm12 cd12 ct12 : Value} {od12 an12 : Option Addr} {sl12 : Array (Option Value)} {f13 : Addr} {oc13 kV13 dc13 pm13 cd13 ct13 : Value} {od13 an13 : Option Addr} {sl13 : Array (Option Value)} {f14 : Addr} {oc14 kV14 dc14 pm14 cd14 ct14 : Value} {od14 an14 : Option Addr} {sl14 : Array (Option Value)} {f15 : Addr} {oc15 kV15 dc15 pm15 cd15 ct15 : Value} {od15 an15 : Option Addr} {sl15 : Array (Option Value)} {f16 : Addr} {oc16 kV16 dc16 pm16 cd16 ct16 : Value} {od16 an16 : Option Addr} {sl16 : Array (Option Value)} {f17 : Addr} {oc17 kV17 dc17 pm17 cd17 ct17 : Value} {od17 an17 : Option Addr} {sl17 : Array (Option Value)} {f18 : Addr} {oc18 kV18 dc18 pm18 cd18 ct18 : Value} {od18 an18 : Option Addr} {sl18 : Array (Option Value)} {f19 : Addr} {oc19 kV19 dc19 pm19 cd19 ct19 : Value} {od19 an19 : Option Addr} {sl19 : Array (Option Value)} {f20 : Addr} {oc20 kV20 dc20 pm20 cd20 ct20 : Value} {od20 an20 : Option Addr} {sl20 : Array (Option Value)} {f21 : Addr} {oc21 kV21 dc21 pm21 cd21 ct21 : Value} {od21 an21 : Option Addr} {sl21 : Array (Option Value)} {f22 : Addr} {oc22 kV22 dc22 pm22 cd22 ct22 : Value} {od22 an22 : Option Addr} {sl22 : Array (Option Value)} {f23 : Addr} {oc23 kV23 dc23 pm23 cd23 ct23 : Value} {od23 an23 : Option Addr} {sl23 : Array (Option Value)} {f24 : Addr} {oc24 kV24 dc24 pm24 cd24 ct24 : Value} {od24 an24 : Option Addr} {sl24 : Array (Option Value)} {f25 : Addr} {oc25 kV25 dc25 pm25 cd25 ct25 : Value} {od25 an25 : Option Addr} {sl25 : Array (Option Value)} {f26 : Addr} {oc26 kV26 dc26 pm26 cd26 ct26 : Value} {od26 an26 : Option Addr} {sl26 : Array (Option Value)} {f27 : Addr} {oc27 kV27 dc27 pm27 cd27 ct27 : Value} {od27 an27 : Option Addr} {sl27 : Array (Option Value)} {f28 : Addr} {oc28 kV28 dc28 pm28 cd28 ct28 : Value} {od28 an28 : Option Addr} {sl28 : Array (Option Value)} {f29 : Addr} {oc29 kV29 dc29 pm29 cd29 ct29 : Value} {od29 an29 : Option Addr} {sl29 : Array (Option Value)} {u_ANY_SIGN : Tok} {u_BEFORE : Tok} {u_BEHIND : Tok} {u_FIRST_END : Tok} {u_LAST_END : Tok} {u_LETTERS : Tok} {u_MOST_PRICE : Tok} {u_MOST_RULES : Tok} {u_MOST_WORD : Tok} (X : K.In h) (G : h.Ns mainGlobals mg) (hfa : mg "law" = some (.ref fa))
    (aC_Fits : PySem.W.nsIn K mainGlobals "Fits" = some (some (.ref C_Fits)))
    (pg_Fits : PySem.W.plainGet K C_Fits Str.empty = true)
    (hd_Fits : PySem.W.hasDictIn K C_Fits = true)
    (po_Fits : PySem.W.plainOver K C_Fits = true)
    (sa_Fits : PySem.W.findIn K (.ref C_Fits) "__setattr__" = some (some (.builtin "object.__setattr__")))
    (mk_Fits : PySem.W.makesIn K C_Fits = true)
    (kc_Fits : PySem.W.keepIn K (.ref C_Fits) = true)
    (aC_Gaps : PySem.W.nsIn K mainGlobals "Gaps" = some (some (.ref C_Gaps)))
    (pg_Gaps : PySem.W.plainGet K C_Gaps Str.empty = true)
    (hd_Gaps : PySem.W.hasDictIn K C_Gaps = true)
    (po_Gaps : PySem.W.plainOver K C_Gaps = true)
    (sa_Gaps : PySem.W.findIn K (.ref C_Gaps) "__setattr__" = some (some (.builtin "object.__setattr__")))
    (mk_Gaps : PySem.W.makesIn K C_Gaps = true)
    (kc_Gaps : PySem.W.keepIn K (.ref C_Gaps) = true)
    (n_Fits_own_costs : PySem.W.findIn K (.ref C_Fits) "own_costs" = some none)
    (n_Fits_own_rules : PySem.W.findIn K (.ref C_Fits) "own_rules" = some none)
    (n_Gaps_own_fits : PySem.W.findIn K (.ref C_Gaps) "own_fits" = some none)
    (n_Gaps_own_roots : PySem.W.findIn K (.ref C_Gaps) "own_roots" = some none)
    (n_Gaps_own_word : PySem.W.findIn K (.ref C_Gaps) "own_word" = some none)
    (a0 : PySem.W.nsIn K mainGlobals "is_whole" = some (some (.ref f0)))
    (l0 : K.lookup f0 = some ⟨oc0, od0, .func (PySem.W.fnOf "is_whole" "is_whole" (defArgs sis_whole) (defBody sis_whole) (defScope sis_whole) .none (.ref D0) dc0 pm0 an0 cd0 ct0), sl0⟩)
    (c0 : PySem.W.codeIn K cd0 "is_whole" = true)
    (k0 : PySem.W.keepIn K (.ref f0) = true)
    (w0_0 : PySem.W.nsIn K D0 "least" = some (some (.int 0 t0_0)))
    (w0_1 : PySem.W.nsIn K D0 "most" = some (some (.int 120 t0_1)))
    (a1 : PySem.W.nsIn K mainGlobals "is_letter" = some (some (.ref f1)))
    (l1 : K.lookup f1 = some ⟨oc1, od1, .func (PySem.W.fnOf "is_letter" "is_letter" (defArgs sis_letter) (defBody sis_letter) (defScope sis_letter) .none kV1 dc1 pm1 an1 cd1 ct1), sl1⟩)
    (c1 : PySem.W.codeIn K cd1 "is_letter" = true)
    (k1 : PySem.W.keepIn K (.ref f1) = true)
    (a2 : PySem.W.nsIn K mainGlobals "need_word" = some (some (.ref f2)))
    (l2 : K.lookup f2 = some ⟨oc2, od2, .func (PySem.W.fnOf "need_word" "need_word" (defArgs sneed_word) (defBody sneed_word) (defScope sneed_word) .none kV2 dc2 pm2 an2 cd2 ct2), sl2⟩)
    (c2 : PySem.W.codeIn K cd2 "need_word" = true)
    (k2 : PySem.W.keepIn K (.ref f2) = true)
    (a3 : PySem.W.nsIn K mainGlobals "is_side" = some (some (.ref f3)))
    (l3 : K.lookup f3 = some ⟨oc3, od3, .func (PySem.W.fnOf "is_side" "is_side" (defArgs sis_side) (defBody sis_side) (defScope sis_side) .none kV3 dc3 pm3 an3 cd3 ct3), sl3⟩)
    (c3 : PySem.W.codeIn K cd3 "is_side" = true)
    (k3 : PySem.W.keepIn K (.ref f3) = true)
    (a4 : PySem.W.nsIn K mainGlobals "rule_looks" = some (some (.ref f4)))
    (l4 : K.lookup f4 = some ⟨oc4, od4, .func (PySem.W.fnOf "rule_looks" "rule_looks" (defArgs srule_looks) (defBody srule_looks) (defScope srule_looks) .none kV4 dc4 pm4 an4 cd4 ct4), sl4⟩)
    (c4 : PySem.W.codeIn K cd4 "rule_looks" = true)
    (k4 : PySem.W.keepIn K (.ref f4) = true)
    (a5 : PySem.W.nsIn K mainGlobals "need_book" = some (some (.ref f5)))
    (l5 : K.lookup f5 = some ⟨oc5, od5, .func (PySem.W.fnOf "need_book" "need_book" (defArgs sneed_book) (defBody sneed_book) (defScope sneed_book) .none kV5 dc5 pm5 an5 cd5 ct5), sl5⟩)
    (c5 : PySem.W.codeIn K cd5 "need_book" = true)
    (k5 : PySem.W.keepIn K (.ref f5) = true)
    (a6 : PySem.W.nsIn K mainGlobals "need_gap" = some (some (.ref f6)))
    (l6 : K.lookup f6 = some ⟨oc6, od6, .func (PySem.W.fnOf "need_gap" "need_gap" (defArgs sneed_gap) (defBody sneed_gap) (defScope sneed_gap) .none kV6 dc6 pm6 an6 cd6 ct6), sl6⟩)
    (c6 : PySem.W.codeIn K cd6 "need_gap" = true)
    (k6 : PySem.W.keepIn K (.ref f6) = true)
    (a7 : PySem.W.nsIn K mainGlobals "need_all" = some (some (.ref f7)))
    (l7 : K.lookup f7 = some ⟨oc7, od7, .func (PySem.W.fnOf "need_all" "need_all" (defArgs sneed_all) (defBody sneed_all) (defScope sneed_all) .none kV7 dc7 pm7 an7 cd7 ct7), sl7⟩)
    (c7 : PySem.W.codeIn K cd7 "need_all" = true)
    (k7 : PySem.W.keepIn K (.ref f7) = true)
    (a8 : PySem.W.findIn K (.ref C_Fits) "__init__" = some (some (.ref f8)))
    (i8 : PySem.W.isFn K (.ref f8) = true)
    (l8 : K.lookup f8 = some ⟨oc8, od8, .func (PySem.W.fnOf "__init__" "Fits.__init__" (defArgs sFits___init__) (defBody sFits___init__) (defScope sFits___init__) .none kV8 dc8 pm8 an8 cd8 ct8), sl8⟩)
    (c8 : PySem.W.codeIn K cd8 "Fits.__init__" = true)
    (k8 : PySem.W.keepIn K (.ref f8) = true)
    (a9 : PySem.W.findIn K (.ref C_Gaps) "__init__" = some (some (.ref f9)))
    (i9 : PySem.W.isFn K (.ref f9) = true)
    (l9 : K.lookup f9 = some ⟨oc9, od9, .func (PySem.W.fnOf "__init__" "Gaps.__init__" (defArgs sGaps___init__) (defBody sGaps___init__) (defScope sGaps___init__) .none kV9 dc9 pm9 an9 cd9 ct9), sl9⟩)
    (c9 : PySem.W.codeIn K cd9 "Gaps.__init__" = true)
    (k9 : PySem.W.keepIn K (.ref f9) = true)
    (a10 : PySem.W.findIn K (.ref C_Fits) "cost" = some (some (.ref f10)))
    (i10 : PySem.W.isFn K (.ref f10) = true)
    (l10 : K.lookup f10 = some ⟨oc10, od10, .func (PySem.W.fnOf "cost" "Fits.cost" (defArgs sFits_cost) (defBody sFits_cost) (defScope sFits_cost) .none kV10 dc10 pm10 an10 cd10 ct10), sl10⟩)
    (c10 : PySem.W.codeIn K cd10 "Fits.cost" = true)
    (k10 : PySem.W.keepIn K (.ref f10) = true)
    (a11 : PySem.W.findIn K (.ref C_Gaps) "cost" = some (some (.ref f11)))
    (i11 : PySem.W.isFn K (.ref f11) = true)
    (l11 : K.lookup f11 = some ⟨oc11, od11, .func (PySem.W.fnOf "cost" "Gaps.cost" (defArgs sGaps_cost) (defBody sGaps_cost) (defScope sGaps_cost) .none kV11 dc11 pm11 an11 cd11 ct11), sl11⟩)
    (c11 : PySem.W.codeIn K cd11 "Gaps.cost" = true)
    (k11 : PySem.W.keepIn K (.ref f11) = true)
    (a12 : PySem.W.findIn K (.ref C_Gaps) "is_open" = some (some (.ref f12)))
    (i12 : PySem.W.isFn K (.ref f12) = true)
    (l12 : K.lookup f12 = some ⟨oc12, od12, .func (PySem.W.fnOf "is_open" "Gaps.is_open" (defArgs sGaps_is_open) (defBody sGaps_is_open) (defScope sGaps_is_open) .none kV12 dc12 pm12 an12 cd12 ct12), sl12⟩)
    (c12 : PySem.W.codeIn K cd12 "Gaps.is_open" = true)
    (k12 : PySem.W.keepIn K (.ref f12) = true)
    (a13 : PySem.W.findIn K (.ref C_Gaps) "look" = some (some (.ref f13)))
    (i13 : PySem.W.isFn K (.ref f13) = true)
    (l13 : K.lookup f13 = some ⟨oc13, od13, .func (PySem.W.fnOf "look" "Gaps.look" (defArgs sGaps_look) (defBody sGaps_look) (defScope sGaps_look) .none kV13 dc13 pm13 an13 cd13 ct13), sl13⟩)
    (c13 : PySem.W.codeIn K cd13 "Gaps.look" = true)
    (k13 : PySem.W.keepIn K (.ref f13) = true)
    (a14 : PySem.W.findIn K (.ref C_Gaps) "look_within" = some (some (.ref f14)))
    (i14 : PySem.W.isFn K (.ref f14) = true)
    (l14 : K.lookup f14 = some ⟨oc14, od14, .func (PySem.W.fnOf "look_within" "Gaps.look_within" (defArgs sGaps_look_within) (defBody sGaps_look_within) (defScope sGaps_look_within) .none kV14 dc14 pm14 an14 cd14 ct14), sl14⟩)
    (c14 : PySem.W.codeIn K cd14 "Gaps.look_within" = true)
    (k14 : PySem.W.keepIn K (.ref f14) = true)
    (a15 : PySem.W.nsIn K mainGlobals "gaps_within" = some (some (.ref f15)))
    (l15 : K.lookup f15 = some ⟨oc15, od15, .func (PySem.W.fnOf "gaps_within" "gaps_within" (defArgs sgaps_within) (defBody sgaps_within) (defScope sgaps_within) .none kV15 dc15 pm15 an15 cd15 ct15), sl15⟩)
    (c15 : PySem.W.codeIn K cd15 "gaps_within" = true)
    (k15 : PySem.W.keepIn K (.ref f15) = true)
    (a16 : PySem.W.nsIn K mainGlobals "clears" = some (some (.ref f16)))
    (l16 : K.lookup f16 = some ⟨oc16, od16, .func (PySem.W.fnOf "clears" "clears" (defArgs sclears) (defBody sclears) (defScope sclears) .none kV16 dc16 pm16 an16 cd16 ct16), sl16⟩)
    (c16 : PySem.W.codeIn K cd16 "clears" = true)
    (k16 : PySem.W.keepIn K (.ref f16) = true)
    (a17 : PySem.W.nsIn K mainGlobals "may_first" = some (some (.ref f17)))
    (l17 : K.lookup f17 = some ⟨oc17, od17, .func (PySem.W.fnOf "may_first" "may_first" (defArgs smay_first) (defBody smay_first) (defScope smay_first) .none kV17 dc17 pm17 an17 cd17 ct17), sl17⟩)
    (c17 : PySem.W.codeIn K cd17 "may_first" = true)
    (k17 : PySem.W.keepIn K (.ref f17) = true)
    (a18 : PySem.W.nsIn K mainGlobals "may_last" = some (some (.ref f18)))
    (l18 : K.lookup f18 = some ⟨oc18, od18, .func (PySem.W.fnOf "may_last" "may_last" (defArgs smay_last) (defBody smay_last) (defScope smay_last) .none kV18 dc18 pm18 an18 cd18 ct18), sl18⟩)
    (c18 : PySem.W.codeIn K cd18 "may_last" = true)
    (k18 : PySem.W.keepIn K (.ref f18) = true)
    (a19 : PySem.W.nsIn K mainGlobals "_law_draws" = some (some (.ref f19)))
    (l19 : K.lookup f19 = some ⟨oc19, od19, .func (PySem.W.fnOf "_law_draws" "_law_draws" (defArgs s_law_draws) (defBody s_law_draws) (defScope s_law_draws) .none kV19 dc19 pm19 an19 cd19 ct19), sl19⟩)
    (c19 : PySem.W.codeIn K cd19 "_law_draws" = true)
    (k19 : PySem.W.keepIn K (.ref f19) = true)
    (a20 : PySem.W.nsIn K mainGlobals "_law_take" = some (some (.ref f20)))
    (l20 : K.lookup f20 = some ⟨oc20, od20, .func (PySem.W.fnOf "_law_take" "_law_take" (defArgs s_law_take) (defBody s_law_take) (defScope s_law_take) .none kV20 dc20 pm20 an20 cd20 ct20), sl20⟩)
    (c20 : PySem.W.codeIn K cd20 "_law_take" = true)
    (k20 : PySem.W.keepIn K (.ref f20) = true)
    (a21 : PySem.W.nsIn K mainGlobals "_law_book" = some (some (.ref f21)))
    (l21 : K.lookup f21 = some ⟨oc21, od21, .func (PySem.W.fnOf "_law_book" "_law_book" (defArgs s_law_book) (defBody s_law_book) (defScope s_law_book) .none kV21 dc21 pm21 an21 cd21 ct21), sl21⟩)
    (c21 : PySem.W.codeIn K cd21 "_law_book" = true)
    (k21 : PySem.W.keepIn K (.ref f21) = true)
    (a22 : PySem.W.nsIn K mainGlobals "_law_letters" = some (some (.ref f22)))
    (l22 : K.lookup f22 = some ⟨oc22, od22, .func (PySem.W.fnOf "_law_letters" "_law_letters" (defArgs s_law_letters) (defBody s_law_letters) (defScope s_law_letters) .none kV22 dc22 pm22 an22 cd22 ct22), sl22⟩)
    (c22 : PySem.W.codeIn K cd22 "_law_letters" = true)
    (k22 : PySem.W.keepIn K (.ref f22) = true)
    (a23 : PySem.W.nsIn K mainGlobals "_law_word" = some (some (.ref f23)))
    (l23 : K.lookup f23 = some ⟨oc23, od23, .func (PySem.W.fnOf "_law_word" "_law_word" (defArgs s_law_word) (defBody s_law_word) (defScope s_law_word) .none kV23 dc23 pm23 an23 cd23 ct23), sl23⟩)
    (c23 : PySem.W.codeIn K cd23 "_law_word" = true)
    (k23 : PySem.W.keepIn K (.ref f23) = true)
    (a24 : PySem.W.nsIn K mainGlobals "_law_cost" = some (some (.ref f24)))
    (l24 : K.lookup f24 = some ⟨oc24, od24, .func (PySem.W.fnOf "_law_cost" "_law_cost" (defArgs s_law_cost) (defBody s_law_cost) (defScope s_law_cost) .none kV24 dc24 pm24 an24 cd24 ct24), sl24⟩)
    (c24 : PySem.W.codeIn K cd24 "_law_cost" = true)
    (k24 : PySem.W.keepIn K (.ref f24) = true)
    (a25 : PySem.W.nsIn K mainGlobals "_law_at" = some (some (.ref f25)))
    (l25 : K.lookup f25 = some ⟨oc25, od25, .func (PySem.W.fnOf "_law_at" "_law_at" (defArgs s_law_at) (defBody s_law_at) (defScope s_law_at) .none kV25 dc25 pm25 an25 cd25 ct25), sl25⟩)
    (c25 : PySem.W.codeIn K cd25 "_law_at" = true)
    (k25 : PySem.W.keepIn K (.ref f25) = true)
    (a26 : PySem.W.nsIn K mainGlobals "_law_goes" = some (some (.ref f26)))
    (l26 : K.lookup f26 = some ⟨oc26, od26, .func (PySem.W.fnOf "_law_goes" "_law_goes" (defArgs s_law_goes) (defBody s_law_goes) (defScope s_law_goes) .none kV26 dc26 pm26 an26 cd26 ct26), sl26⟩)
    (c26 : PySem.W.codeIn K cd26 "_law_goes" = true)
    (k26 : PySem.W.keepIn K (.ref f26) = true)
    (a27 : PySem.W.nsIn K mainGlobals "_law_all_gaps" = some (some (.ref f27)))
    (l27 : K.lookup f27 = some ⟨oc27, od27, .func (PySem.W.fnOf "_law_all_gaps" "_law_all_gaps" (defArgs s_law_all_gaps) (defBody s_law_all_gaps) (defScope s_law_all_gaps) .none kV27 dc27 pm27 an27 cd27 ct27), sl27⟩)
    (c27 : PySem.W.codeIn K cd27 "_law_all_gaps" = true)
    (k27 : PySem.W.keepIn K (.ref f27) = true)
    (a28 : PySem.W.nsIn K mainGlobals "_law_right" = some (some (.ref f28)))
    (l28 : K.lookup f28 = some ⟨oc28, od28, .func (PySem.W.fnOf "_law_right" "_law_right" (defArgs s_law_right) (defBody s_law_right) (defScope s_law_right) .none kV28 dc28 pm28 an28 cd28 ct28), sl28⟩)
    (c28 : PySem.W.codeIn K cd28 "_law_right" = true)
    (k28 : PySem.W.keepIn K (.ref f28) = true)
    (a29 : PySem.W.nsIn K mainGlobals "law" = some (some (.ref f29)))
    (l29 : K.lookup f29 = some ⟨oc29, od29, .func (PySem.W.fnOf "law" "law" (defArgs slaw) (defBody slaw) (defScope slaw) .none kV29 dc29 pm29 an29 cd29 ct29), sl29⟩)
    (c29 : PySem.W.codeIn K cd29 "law" = true)
    (k29 : PySem.W.keepIn K (.ref f29) = true)
    (z_all : PySem.W.nsIn K mainGlobals "all" = some none)
    (z_any : PySem.W.nsIn K mainGlobals "any" = some none)
    (z_bool : PySem.W.nsIn K mainGlobals "bool" = some none)
    (z_enumerate : PySem.W.nsIn K mainGlobals "enumerate" = some none)
    (z_int : PySem.W.nsIn K mainGlobals "int" = some none)
    (z_isinstance : PySem.W.nsIn K mainGlobals "isinstance" = some none)
    (z_len : PySem.W.nsIn K mainGlobals "len" = some none)
    (z_list : PySem.W.nsIn K mainGlobals "list" = some none)
    (z_min : PySem.W.nsIn K mainGlobals "min" = some none)
    (z_range : PySem.W.nsIn K mainGlobals "range" = some none)
    (z_repr : PySem.W.nsIn K mainGlobals "repr" = some none)
    (z_str : PySem.W.nsIn K mainGlobals "str" = some none)
    (z_tuple : PySem.W.nsIn K mainGlobals "tuple" = some none)
    (y_ANY_SIGN : PySem.W.nsIn K mainGlobals "ANY_SIGN" = some (some (.str "*" u_ANY_SIGN)))
    (y_BEFORE : PySem.W.nsIn K mainGlobals "BEFORE" = some (some (.str "<" u_BEFORE)))
    (y_BEHIND : PySem.W.nsIn K mainGlobals "BEHIND" = some (some (.str ">" u_BEHIND)))
    (y_FIRST_END : PySem.W.nsIn K mainGlobals "FIRST_END" = some (some (.str "<" u_FIRST_END)))
    (y_LAST_END : PySem.W.nsIn K mainGlobals "LAST_END" = some (some (.str ">" u_LAST_END)))
    (y_LETTERS : PySem.W.nsIn K mainGlobals "LETTERS" = some (some (.str "abcdefghijklmnopqrstuvwxyz" u_LETTERS)))
    (y_MOST_PRICE : PySem.W.nsIn K mainGlobals "MOST_PRICE" = some (some (.int 999 u_MOST_PRICE)))
    (y_MOST_RULES : PySem.W.nsIn K mainGlobals "MOST_RULES" = some (some (.int 80 u_MOST_RULES)))
    (y_MOST_WORD : PySem.W.nsIn K mainGlobals "MOST_WORD" = some (some (.int 120 u_MOST_WORD)))
    : ∃ fd : FuncData, (∀ (s : Shared) (v : Value), BindsTo s fd ⟨[v], []⟩ [("_law_script", v)]) ∧ ∀ base : Heap, K.In base → base.Ns mainGlobals mg → FnG l.prog w K mg base 9 fa fd ["_law_script"] (spF K flaw) := by
  have e := hfa.symm.trans (PySem.W.mg_of X G a29)
  cases e
  have T : Txt K mg := ⟨PySem.W.mg_none_of X G z_all, PySem.W.mg_none_of X G z_any, PySem.W.mg_none_of X G z_bool, PySem.W.mg_none_of X G z_enumerate, PySem.W.mg_none_of X G z_int, PySem.W.mg_none_of X G z_isinstance, PySem.W.mg_none_of X G z_len, PySem.W.mg_none_of X G z_list, PySem.W.mg_none_of X G z_min, PySem.W.mg_none_of X G z_range, PySem.W.mg_none_of X G z_repr, PySem.W.mg_none_of X G z_str, PySem.W.mg_none_of X G z_tuple, con_str (PySem.W.mg_of X G y_ANY_SIGN), con_str (PySem.W.mg_of X G y_BEFORE), con_str (PySem.W.mg_of X G y_BEHIND), con_str (PySem.W.mg_of X G y_FIRST_END), con_str (PySem.W.mg_of X G y_LAST_END), con_str (PySem.W.mg_of X G y_LETTERS), con_int (PySem.W.mg_of X G y_MOST_PRICE), con_int (PySem.W.mg_of X G y_MOST_RULES), con_int (PySem.W.mg_of X G y_MOST_WORD), att_of aC_Fits ⟨pg_Fits, hd_Fits, po_Fits, sa_Fits⟩ n_Fits_own_costs, att_of aC_Fits ⟨pg_Fits, hd_Fits, po_Fits, sa_Fits⟩ n_Fits_own_rules, att_of aC_Gaps ⟨pg_Gaps, hd_Gaps, po_Gaps, sa_Gaps⟩ n_Gaps_own_fits, att_of aC_Gaps ⟨pg_Gaps, hd_Gaps, po_Gaps, sa_Gaps⟩ n_Gaps_own_roots, att_of aC_Gaps ⟨pg_Gaps, hd_Gaps, po_Gaps, sa_Gaps⟩ n_Gaps_own_word⟩
  have Fis_whole : FunDAt K mg "is_whole" sis_whole [("least", flatOf (.int 0)), ("most", flatOf (.int 120))] := ⟨_, _, ⟨⟨_, _, _, _, _, _, _, _, _, _, rfl, l0, c0, .inl ⟨rfl, rfl⟩, .inr ⟨D0, rfl, fun q hq => by
      simp only [List.mem_cons, List.not_mem_nil, or_false] at hq
      rcases hq with rfl | rfl
      · exact ⟨_, w0_0, ⟨_, rfl⟩⟩
      · exact ⟨_, w0_1, ⟨_, rfl⟩⟩
    ⟩⟩, k0⟩, PySem.W.mg_of X G a0⟩
  have Fis_letter : FunAt K mg "is_letter" sis_letter := ⟨_, _, fun_mk (st := sis_letter) l1 c1 k1, PySem.W.mg_of X G a1⟩
  have Fneed_word : FunAt K mg "need_word" sneed_word := ⟨_, _, fun_mk (st := sneed_word) l2 c2 k2, PySem.W.mg_of X G a2⟩
  have Fis_side : FunAt K mg "is_side" sis_side := ⟨_, _, fun_mk (st := sis_side) l3 c3 k3, PySem.W.mg_of X G a3⟩
  have Frule_looks : FunAt K mg "rule_looks" srule_looks := ⟨_, _, fun_mk (st := srule_looks) l4 c4 k4, PySem.W.mg_of X G a4⟩
  have Fneed_book : FunAt K mg "need_book" sneed_book := ⟨_, _, fun_mk (st := sneed_book) l5 c5 k5, PySem.W.mg_of X G a5⟩
  have Fneed_gap : FunAt K mg "need_gap" sneed_gap := ⟨_, _, fun_mk (st := sneed_gap) l6 c6 k6, PySem.W.mg_of X G a6⟩
  have Fneed_all : FunAt K mg "need_all" sneed_all := ⟨_, _, fun_mk (st := sneed_all) l7 c7 k7, PySem.W.mg_of X G a7⟩
  have FFits___init__ : ClsAt K mg "Fits" "Fits.__init__" sFits___init__ := ⟨_, _, _, aC_Fits, PySem.W.mg_of X G aC_Fits, ⟨mk_Fits, a8, i8, kc_Fits⟩, fun_mk (st := sFits___init__) l8 c8 k8⟩
  have FGaps___init__ : ClsAt K mg "Gaps" "Gaps.__init__" sGaps___init__ := ⟨_, _, _, aC_Gaps, PySem.W.mg_of X G aC_Gaps, ⟨mk_Gaps, a9, i9, kc_Gaps⟩, fun_mk (st := sGaps___init__) l9 c9 k9⟩
  have FFits_cost : MethAt K "Fits" "cost" "Fits.cost" sFits_cost := ⟨_, _, _, aC_Fits, ⟨pg_Fits, hd_Fits, po_Fits, sa_Fits⟩, ⟨a10, i10, k10⟩, fun_mk (st := sFits_cost) l10 c10 k10⟩
  have FGaps_cost : MethAt K "Gaps" "cost" "Gaps.cost" sGaps_cost := ⟨_, _, _, aC_Gaps, ⟨pg_Gaps, hd_Gaps, po_Gaps, sa_Gaps⟩, ⟨a11, i11, k11⟩, fun_mk (st := sGaps_cost) l11 c11 k11⟩
  have FGaps_is_open : MethAt K "Gaps" "is_open" "Gaps.is_open" sGaps_is_open := ⟨_, _, _, aC_Gaps, ⟨pg_Gaps, hd_Gaps, po_Gaps, sa_Gaps⟩, ⟨a12, i12, k12⟩, fun_mk (st := sGaps_is_open) l12 c12 k12⟩
  have FGaps_look : MethAt K "Gaps" "look" "Gaps.look" sGaps_look := ⟨_, _, _, aC_Gaps, ⟨pg_Gaps, hd_Gaps, po_Gaps, sa_Gaps⟩, ⟨a13, i13, k13⟩, fun_mk (st := sGaps_look) l13 c13 k13⟩
  have FGaps_look_within : MethAt K "Gaps" "look_within" "Gaps.look_within" sGaps_look_within := ⟨_, _, _, aC_Gaps, ⟨pg_Gaps, hd_Gaps, po_Gaps, sa_Gaps⟩, ⟨a14, i14, k14⟩, fun_mk (st := sGaps_look_within) l14 c14 k14⟩
  have Fgaps_within : FunAt K mg "gaps_within" sgaps_within := ⟨_, _, fun_mk (st := sgaps_within) l15 c15 k15, PySem.W.mg_of X G a15⟩
  have Fclears : FunAt K mg "clears" sclears := ⟨_, _, fun_mk (st := sclears) l16 c16 k16, PySem.W.mg_of X G a16⟩
  have Fmay_first : FunAt K mg "may_first" smay_first := ⟨_, _, fun_mk (st := smay_first) l17 c17 k17, PySem.W.mg_of X G a17⟩
  have Fmay_last : FunAt K mg "may_last" smay_last := ⟨_, _, fun_mk (st := smay_last) l18 c18 k18, PySem.W.mg_of X G a18⟩
  have F_law_draws : FunAt K mg "_law_draws" s_law_draws := ⟨_, _, fun_mk (st := s_law_draws) l19 c19 k19, PySem.W.mg_of X G a19⟩
  have F_law_take : FunAt K mg "_law_take" s_law_take := ⟨_, _, fun_mk (st := s_law_take) l20 c20 k20, PySem.W.mg_of X G a20⟩
  have F_law_book : FunAt K mg "_law_book" s_law_book := ⟨_, _, fun_mk (st := s_law_book) l21 c21 k21, PySem.W.mg_of X G a21⟩
  have F_law_letters : FunAt K mg "_law_letters" s_law_letters := ⟨_, _, fun_mk (st := s_law_letters) l22 c22 k22, PySem.W.mg_of X G a22⟩
  have F_law_word : FunAt K mg "_law_word" s_law_word := ⟨_, _, fun_mk (st := s_law_word) l23 c23 k23, PySem.W.mg_of X G a23⟩
  have F_law_cost : FunAt K mg "_law_cost" s_law_cost := ⟨_, _, fun_mk (st := s_law_cost) l24 c24 k24, PySem.W.mg_of X G a24⟩
  have F_law_at : FunAt K mg "_law_at" s_law_at := ⟨_, _, fun_mk (st := s_law_at) l25 c25 k25, PySem.W.mg_of X G a25⟩
  have F_law_goes : FunAt K mg "_law_goes" s_law_goes := ⟨_, _, fun_mk (st := s_law_goes) l26 c26 k26, PySem.W.mg_of X G a26⟩
  have F_law_all_gaps : FunAt K mg "_law_all_gaps" s_law_all_gaps := ⟨_, _, fun_mk (st := s_law_all_gaps) l27 c27 k27, PySem.W.mg_of X G a27⟩
  have F_law_right : FunAt K mg "_law_right" s_law_right := ⟨_, _, fun_mk (st := s_law_right) l28 c28 k28, PySem.W.mg_of X G a28⟩
  refine ⟨_, fun s v => ?_, fun base _ _ => fn_F (fun_mk (st := slaw) l29 c29 k29) sclaw fun cdv A outer s H vs E hg hr => all_ok T Fis_whole Fis_letter Fneed_word Fis_side Frule_looks Fneed_book Fneed_gap Fneed_all FFits___init__ FGaps___init__ FFits_cost FGaps_cost FGaps_is_open FGaps_look FGaps_look_within Fgaps_within Fclears Fmay_first Fmay_last F_law_draws F_law_take F_law_book F_law_letters F_law_word F_law_cost F_law_at F_law_goes F_law_all_gaps F_law_right _ cdv A outer s H vs E hg hr⟩
  exact .of_eq rfl
theorem walk (law_true : ∀ ns : List Int, ns.length ≤ 63 → ∃ ms', flaw [.im (.list (ns.map .int))] = .ok (.im (.bool true)) ms') {l : PySem.W.OpenLaw} {q : Program} {loose : List Str} {XP : (Str → Option Value) → Heap → Prop} {YP : World → Heap → Prop} {d : DefRec} {K : Params → PySem.W.Frag} (hn : l.most = some 63) (hdf : d.params.defaults = [])
    (hY : ∀ (w : World) (h : Heap), YP w h → (K w.params).In h)
    (F : ∀ (w : World) (mg : Str → Option Value) (fa : Addr) (h : Heap), (K w.params).In h → h.Ns mainGlobals mg → mg d.name = some (.ref fa) → ∃ fd : FuncData, (∀ (s : Shared) (u : Value), BindsTo s fd ⟨[u], []⟩ [("_law_script", u)]) ∧ ∀ base : Heap, (K w.params).In base → base.Ns mainGlobals mg → FnG l.prog w (K w.params) mg base 9 fa fd ["_law_script"] (spF (K w.params) flaw)) :
    PySem.W.WalkO q loose XP YP l.row.toRowW d [] (fun f vs => PySem.call f vs) :=
  walk_G (n := 63) (k := 9) (x := "_law_script") (sp := fun K => spF K flaw) hn (by decide) hdf ⟨rfl, by decide, by decide⟩ hY F fun K H a ns hl hs => law_hs law_true K H a ns hl hs
end FDL

open PySem PySem.W PyProof.Rows in
set_option maxRecDepth 100000 in
set_option maxHeartbeats 0 in
theorem PySem.Challenge.cw_strikeline_k20_whole_first_and_last_holds : PySem.Challenge.rw_strikeline_k20_whole_first_and_last.Holds := by
  w_on; o_law; k_head; (case hw => w_witness2)
  k_fill
  refine FDL.walk FDL.law_true (l := PySem.Challenge.rw_strikeline_k20_whole_first_and_last) rfl rfl (fun w h Y => PySem.W.kIn_of Y) ?F
  case F =>
    intro w mg fa h KX G hmg
    refine' FDL.all_mk KX G hmg ?aC_Fits ?pg_Fits ?hd_Fits ?po_Fits ?sa_Fits ?mk_Fits ?kc_Fits ?aC_Gaps ?pg_Gaps ?hd_Gaps ?po_Gaps ?sa_Gaps ?mk_Gaps ?kc_Gaps ?n_Fits_own_costs ?n_Fits_own_rules ?n_Gaps_own_fits ?n_Gaps_own_roots ?n_Gaps_own_word ?a0 ?l0 ?c0 ?k0 ?w0_0 ?w0_1 ?a1 ?l1 ?c1 ?k1 ?a2 ?l2 ?c2 ?k2 ?a3 ?l3 ?c3 ?k3 ?a4 ?l4 ?c4 ?k4 ?a5 ?l5 ?c5 ?k5 ?a6 ?l6 ?c6 ?k6 ?a7 ?l7 ?c7 ?k7 ?a8 ?i8 ?l8 ?c8 ?k8 ?a9 ?i9 ?l9 ?c9 ?k9 ?a10 ?i10 ?l10 ?c10 ?k10 ?a11 ?i11 ?l11 ?c11 ?k11 ?a12 ?i12 ?l12 ?c12 ?k12 ?a13 ?i13 ?l13 ?c13 ?k13 ?a14 ?i14 ?l14 ?c14 ?k14 ?a15 ?l15 ?c15 ?k15 ?a16 ?l16 ?c16 ?k16 ?a17 ?l17 ?c17 ?k17 ?a18 ?l18 ?c18 ?k18 ?a19 ?l19 ?c19 ?k19 ?a20 ?l20 ?c20 ?k20 ?a21 ?l21 ?c21 ?k21 ?a22 ?l22 ?c22 ?k22 ?a23 ?l23 ?c23 ?k23 ?a24 ?l24 ?c24 ?k24 ?a25 ?l25 ?c25 ?k25 ?a26 ?l26 ?c26 ?k26 ?a27 ?l27 ?c27 ?k27 ?a28 ?l28 ?c28 ?k28 ?a29 ?l29 ?c29 ?k29 ?z_all ?z_any ?z_bool ?z_enumerate ?z_int ?z_isinstance ?z_len ?z_list ?z_min ?z_range ?z_repr ?z_str ?z_tuple ?y_ANY_SIGN ?y_BEFORE ?y_BEHIND ?y_FIRST_END ?y_LAST_END ?y_LETTERS ?y_MOST_PRICE ?y_MOST_RULES ?y_MOST_WORD
    (case aC_Fits => k_is)
    (case pg_Fits => k_is)
    (case hd_Fits => k_is)
    (case po_Fits => k_is)
    (case sa_Fits => k_is)
    (case mk_Fits => k_is)
    (case kc_Fits => k_is)
    (case aC_Gaps => k_is)
    (case pg_Gaps => k_is)
    (case hd_Gaps => k_is)
    (case po_Gaps => k_is)
    (case sa_Gaps => k_is)
    (case mk_Gaps => k_is)
    (case kc_Gaps => k_is)
    (case n_Fits_own_costs => k_is)
    (case n_Fits_own_rules => k_is)
    (case n_Gaps_own_fits => k_is)
    (case n_Gaps_own_roots => k_is)
    (case n_Gaps_own_word => k_is)
    (case a0 => k_is)
    (case l0 => k_is)
    (case c0 => k_is)
    (case k0 => k_is)
    (case w0_0 => k_is)
    (case w0_1 => k_is)
    (case a1 => k_is)
    (case l1 => k_is)
    (case c1 => k_is)
    (case k1 => k_is)
    (case a2 => k_is)
    (case l2 => k_is)
    (case c2 => k_is)
    (case k2 => k_is)
    (case a3 => k_is)
    (case l3 => k_is)
    (case c3 => k_is)
    (case k3 => k_is)
    (case a4 => k_is)
    (case l4 => k_is)
    (case c4 => k_is)
    (case k4 => k_is)
    (case a5 => k_is)
    (case l5 => k_is)
    (case c5 => k_is)
    (case k5 => k_is)
    (case a6 => k_is)
    (case l6 => k_is)
    (case c6 => k_is)
    (case k6 => k_is)
    (case a7 => k_is)
    (case l7 => k_is)
    (case c7 => k_is)
    (case k7 => k_is)
    (case a8 => k_is)
    (case i8 => k_is)
    (case l8 => k_is)
    (case c8 => k_is)
    (case k8 => k_is)
    (case a9 => k_is)
    (case i9 => k_is)
    (case l9 => k_is)
    (case c9 => k_is)
    (case k9 => k_is)
    (case a10 => k_is)
    (case i10 => k_is)
    (case l10 => k_is)
    (case c10 => k_is)
    (case k10 => k_is)
    (case a11 => k_is)
    (case i11 => k_is)
    (case l11 => k_is)
    (case c11 => k_is)
    (case k11 => k_is)
    (case a12 => k_is)
    (case i12 => k_is)
    (case l12 => k_is)
    (case c12 => k_is)
    (case k12 => k_is)
    (case a13 => k_is)
    (case i13 => k_is)
    (case l13 => k_is)
    (case c13 => k_is)
    (case k13 => k_is)
    (case a14 => k_is)
    (case i14 => k_is)
    (case l14 => k_is)
    (case c14 => k_is)
    (case k14 => k_is)
    (case a15 => k_is)
    (case l15 => k_is)
    (case c15 => k_is)
    (case k15 => k_is)
    (case a16 => k_is)
    (case l16 => k_is)
    (case c16 => k_is)
    (case k16 => k_is)
    (case a17 => k_is)
    (case l17 => k_is)
    (case c17 => k_is)
    (case k17 => k_is)
    (case a18 => k_is)
    (case l18 => k_is)
    (case c18 => k_is)
    (case k18 => k_is)
    (case a19 => k_is)
    (case l19 => k_is)
    (case c19 => k_is)
    (case k19 => k_is)
    (case a20 => k_is)
    (case l20 => k_is)
    (case c20 => k_is)
    (case k20 => k_is)
    (case a21 => k_is)
    (case l21 => k_is)
    (case c21 => k_is)
    (case k21 => k_is)
    (case a22 => k_is)
    (case l22 => k_is)
    (case c22 => k_is)
    (case k22 => k_is)
    (case a23 => k_is)
    (case l23 => k_is)
    (case c23 => k_is)
    (case k23 => k_is)
    (case a24 => k_is)
    (case l24 => k_is)
    (case c24 => k_is)
    (case k24 => k_is)
    (case a25 => k_is)
    (case l25 => k_is)
    (case c25 => k_is)
    (case k25 => k_is)
    (case a26 => k_is)
    (case l26 => k_is)
    (case c26 => k_is)
    (case k26 => k_is)
    (case a27 => k_is)
    (case l27 => k_is)
    (case c27 => k_is)
    (case k27 => k_is)
    (case a28 => k_is)
    (case l28 => k_is)
    (case c28 => k_is)
    (case k28 => k_is)
    (case a29 => k_is)
    (case l29 => k_is)
    (case c29 => k_is)
    (case k29 => k_is)
    (case z_all => k_is)
    (case z_any => k_is)
    (case z_bool => k_is)
    (case z_enumerate => k_is)
    (case z_int => k_is)
    (case z_isinstance => k_is)
    (case z_len => k_is)
    (case z_list => k_is)
    (case z_min => k_is)
    (case z_range => k_is)
    (case z_repr => k_is)
    (case z_str => k_is)
    (case z_tuple => k_is)
    (case y_ANY_SIGN => k_is)
    (case y_BEFORE => k_is)
    (case y_BEHIND => k_is)
    (case y_FIRST_END => k_is)
    (case y_LAST_END => k_is)
    (case y_LETTERS => k_is)
    (case y_MOST_PRICE => k_is)
    (case y_MOST_RULES => k_is)
    (case y_MOST_WORD => k_is)
#print axioms PySem.Challenge.cw_strikeline_k20_whole_first_and_last_holds
