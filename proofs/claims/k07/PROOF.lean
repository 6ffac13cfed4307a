import PyProof.Rows.All
import Wide.All
import OpenK.AllK
import Wide.FinOn
import HandS.ForMost
import HandS.Exc
import HandS.ExcOwn
import HandS.ExcInit
import HandS.Lambda
import HandS.Deep
import HandS.TupAny
import HandS.Style
import HandS.Wide
import HandS.WideMore
import HandS.IsInst
import HandS.TupLen
import HandS.TupMul
import HandS.Conv
import PyProof.ReprRoads
import PyProof.TupleOfStr
import HandS.Flow
import KE.KEqDict
import KE.GoesEnum
import HandS.Small
import HandS.Defaults
import HandS.SortInts
import HandS.SetFor
import KE.DataMinMax
import HandS.SortKw
import HandS.SetKeys
import HandS.DictTup
import HandS.SortRule
import KE.KDictDisplayH
import PyProof.StrOps2
import HandS.NoneIn
import HandS.Zip
import PyProof.ListStr
import HandS.Text
import KE.KRevSl
import OpenK.KOps
import HandS.ClsMeth
import HandS.WordsExc
import HandS.ExcField
import HandS.EndTab
import HandS.ExcIs
import HandS.Set
import HandS.Strs
import HandS.SetTxtIn
import PyProof.Rows.SortShellAny
import KE.KDictList
import KE.KDictPairs
import KE.KDictCopyH
import KE.KExcInit
import KE.KExcIs
import HandS.DictComp
import HandS.ListItems
import KE.KDictExact
import KE.KDictZip
import KE.GoesMore
import KE.GoesZip
import HandS.StrMore
import HandS.SetBool
import HandS.More
import HandS.RaiseMore
import KE.DatumOrd
import KE.SortData
import HandS.WideBits
import KE.KUnpackStar
import PyProof.TupleOfSeq
import HandS.Sort
import KE.DataFind
import HandS.TupSets
import PySem.Challenge.RW_strikeline_k07_whole_a_star_is_all
set_option Elab.async false
set_option linter.all false
set_option maxRecDepth 100000
set_option maxHeartbeats 4000000
/-! FD: what a text denotes as a function of plain data, over the hand layer: values, the state, the judgements. -/
namespace FD
open PySem L2
abbrev D := PyData
/-- the tables of code objects that lambdas fill, and the names of their code -/
class TabT where
  tabs : List (Addr × Str)
/-- what a slot holds: data that nobody changes any more, or a tree of things that this slot alone owns -/
inductive M where
  | im (d : D)
  | ls (ms : List M)
  | dk (kvs : List (Key × M))
  | dt (kvs : List (List Key × M))
  | ob (C : Str) (fs : List (Str × M))
  | fz (C : Str) (fs : List (Str × D))
  | tp (ms : List M)
  | xc (C : Str) (fs : List (Str × D))
  | lm (Φ : V → Hp → Prop)
  | kt (ds : List D)
  | gone
abbrev Env := List (Option M)
inductive Out (α : Type) where
  | ok (a : α) (e : Env)
  | ex (C : Str) (fs : List (Str × D)) (e : Env)
  | no
abbrev EM (α : Type) := Env → Out α
def bnd {α β : Type} (f : EM α) (k : α → EM β) : EM β := fun e => match f e with
  | .ok a e' => k a e'
  | .ex C fs e' => .ex C fs e'
  | .no => .no
def ret {α : Type} (a : α) : EM α := fun e => .ok a e
/-- a partial operation on data -/
def lif {α : Type} : Option α → EM α
  | some a => fun e => .ok a e
  | none => fun _ => .no
def keyD : Key → D
  | .inl i => .int i
  | .inr x => .str x
/-! ### heaps -/
/-- things that nobody changes and that may be learnt late: tuples, what the layer's texts add -/
def fxO : (List V ⊕ (Heap → Prop)) → HO
  | .inl vs => .tup vs
  | .inr φ => .ext φ
theorem fx_lst {xs : List V} {w} : HO.lst xs ≠ fxO w := fun z => by cases w <;> exact nomatch z
theorem fx_dk {xs : List (Key × V)} {w} : HO.dK xs ≠ fxO w := fun z => by cases w <;> exact nomatch z
theorem fx_dt {xs : List (List Key × V)} {w} : HO.dT xs ≠ fxO w := fun z => by cases w <;> exact nomatch z
theorem fx_ins {a b : Addr} {xs : List (Str × V)} {w} : HO.ins a b xs ≠ fxO w := fun z => by cases w <;> exact nomatch z
theorem fx_tbl {ps : Array Value} {w} : HO.tbl ps ≠ fxO w := fun z => by cases w <;> exact nomatch z
/-- no table -/
def Nt (o : HO) : Prop := ∀ ps, o ≠ .tbl ps
def Exct (u : HO) : Prop := ((∀ kvs, u ≠ .dK kvs) ∧ ∀ kvs, u ≠ .dT kvs) ∧ Nt u
structure Sub (F H : Hp) : Prop where
  rdN : ∀ a u, Nt u → Rd F a u → Rd H a u
  ex : ∀ a u, Exct u → F a = some u → H a = some u
  nn : ∀ a, H a = none → F a = none
theorem Sub.rd {F H : Hp} (s : Sub F H) (a : Addr) (u : HO) (r : Rd F a u) (n : Nt u := by exact fun _ z => nomatch z) : Rd H a u := s.rdN a u n r
theorem ex_tup (vs : List V) : Exct (.tup vs) := ⟨⟨(fun _ z => nomatch z), (fun _ z => nomatch z)⟩, (fun _ z => nomatch z)⟩
theorem ex_frz (o : Obj) (u : HO) : Exct (.frz o u) := ⟨⟨(fun _ z => nomatch z), (fun _ z => nomatch z)⟩, (fun _ z => nomatch z)⟩
theorem ex_ins (ca dx : Addr) (fs : List (Str × V)) : Exct (.ins ca dx fs) := ⟨⟨(fun _ z => nomatch z), (fun _ z => nomatch z)⟩, (fun _ z => nomatch z)⟩
theorem Sub.tp {F H : Hp} (s : Sub F H) (a : Addr) (vs : List V) (h : F a = some (.tup vs)) : H a = some (.tup vs) := s.ex a _ (ex_tup vs) h
theorem Sub.fz {F H : Hp} (s : Sub F H) (a : Addr) (o : Obj) (u : HO) (h : F a = some (.frz o u)) : H a = some (.frz o u) := s.ex a _ (ex_frz o u) h
theorem Sub.refl (F : Hp) : Sub F F := ⟨fun _ _ _ h => h, fun _ _ _ h => h, fun _ h => h⟩
theorem Sub.trans {F G H : Hp} (a : Sub F G) (b : Sub G H) : Sub F H := ⟨fun x u n h => b.rdN x u n (a.rdN x u n h), fun x u e h => b.ex x u e (a.ex x u e h), fun x h => a.nn x (b.nn x h)⟩
theorem Sub.l {K : PySem.W.Frag} {F H : Hp} {a : Addr} {xs : List V} (s : Sub F H) (h : SqL K F a xs) : SqL K H a xs := h.imp (fun r => s.rd a _ r) id
theorem Sub.t {K : PySem.W.Frag} {F H : Hp} {a : Addr} {xs : List V} (s : Sub F H) (h : F a = some (.tup xs)) : SqT K H a xs := SqT.of (s.tp a xs h)
theorem rd_none {F : Hp} {a : Addr} {u : HO} (h : F a = none) : ¬ Rd F a u := fun r => by
  rcases r with r | ⟨_, r⟩
  · rw [h] at r; cases r
  · rw [h] at r; cases r
theorem Sub.non {F H : Hp} {a : Addr} (s : Sub F H) (h : H a = none) : F a = none := s.nn a h
/-- the same at a -/
theorem rd_at {F G : Hp} {a : Addr} {u : HO} (e : G a = F a) (r : Rd F a u) : Rd G a u := by
  unfold Rd at r ⊢
  rw [e]
  exact r
theorem Sub.new {F : Hp} {p : Addr} {o : HO} (h : F p = none) : Sub F (upd F p o) where
  rdN := fun a u _ r => rd_at (upd_ne fun e => rd_none (by rw [e]; exact h) r) r
  ex := fun a _ _ q => by
    rw [upd_ne (ne_of_none q h)]
    exact q
  nn := fun a q => by
    by_cases e : a = p
    · subst e; exact h
    · rw [upd_ne e] at q; exact q
theorem Sub.both {F H : Hp} {p : Addr} {o : HO} (s : Sub F H) : Sub (upd F p o) (upd H p o) where
  rdN := fun a u n r => by
    by_cases e : a = p
    · subst e
      exact rd_at (by rw [upd_same, upd_same]) r
    · exact rd_at (upd_ne e) (s.rdN a u n (rd_at (upd_ne e).symm r))
  ex := fun a u x q => by
    by_cases e : a = p
    · subst e
      rw [upd_same] at q ⊢
      exact q
    · rw [upd_ne e] at q ⊢
      exact s.ex a u x q
  nn := fun a q => by
    by_cases e : a = p
    · subst e; rw [upd_same] at q; cases q
    · rw [upd_ne e] at q ⊢; exact s.nn a q
/-- what F does not know may change -/
theorem Sub.mut {F H : Hp} {p : Addr} {o : HO} (s : Sub F H) (h : F p = none) : Sub F (upd H p o) where
  rdN := fun a u n r => rd_at (upd_ne fun e => rd_none (by rw [e]; exact h) r) (s.rdN a u n r)
  ex := fun a u x q => by
    rw [upd_ne (ne_of_none q h)]
    exact s.ex a u x q
  nn := fun a q => by
    by_cases e : a = p
    · subst e; exact h
    · rw [upd_ne e] at q; exact s.nn a q
/-! ### data in a heap -/
/-- a tuple of the written part -/
def KTup (K : PySem.W.Frag) (a : Addr) (vs : List V) : Prop := ∃ (o : Obj) (its : Array Value) (n : Nat), K.lookup a = some o ∧ o.cls = .type "tuple" ∧ o.data = .seq its n ∧ its.size ≤ sizeLine ∧ Vals vs its.toList
/-- a tuple of the module among data: told as a dict under keys that are none -/
def ktD (ds : List D) : D := .dict (ds.map fun d => (.list [], d))
/-- a list by its own self, whatever stands in it -/
def opqK (a : Addr) : List (D × D) := [(.list [.int ((a : Nat) : Int)], .none)]
/-- a def of the module, by its name; under the empty name a thing of which nothing is known -/
def fnK (nm : Str) : List (D × D) := [(.list [.str nm], .none)]
mutual
inductive Rp (K : PySem.W.Frag) (F : Hp) : V → D → Prop
  | non : Rp K F .non .none
  | bl (b : Bool) : Rp K F (.bl b) (.bool b)
  | int (i : Int) : Rp K F (.int i) (.int i)
  | str (x : Str) : Rp K F (.str x) (.str x)
  | lst {a : Addr} {vs : List V} {ds : List D} : SqL K F a vs → RpL K F vs ds → Rp K F (.ref a) (.list ds)
  | tup {a : Addr} {vs : List V} {ds : List D} : F a = some (.tup vs) → RpL K F vs ds → Rp K F (.ref a) (.tuple ds)
  | dK {a : Addr} {kvs : List (Key × V)} {kds : List (Key × D)} : Rd F a (.dK kvs) → kvs.map (·.1) = kds.map (·.1) → RpL K F (kvs.map (·.2)) (kds.map (·.2)) → Rp K F (.ref a) (.dict (kds.map fun p => (keyD p.1, p.2)))
  | dT {a : Addr} {kvs : List (List Key × V)} {kds : List (List Key × D)} : Rd F a (.dT kvs) → kvs.map (·.1) = kds.map (·.1) → RpL K F (kvs.map (·.2)) (kds.map (·.2)) → Rp K F (.ref a) (.dict (kds.map fun p => (.tuple (p.1.map keyD), p.2)))
  | kt {a : Addr} {vs : List V} {ds : List D} : KTup K a vs → ds ≠ [] → RpL K F vs ds → Rp K F (.ref a) (ktD ds)
  | opq {a : Addr} {vs : List V} : Rd F a (.lst vs) → Rp K F (.ref a) (.dict (opqK a))
  | fn {a : Addr} {nm : Str} : ((nm == ("" : Str)) = false → PySem.W.nsIn K mainGlobals nm = some (some (.ref a))) → Rp K F (.ref a) (.dict (fnK nm))
inductive RpL (K : PySem.W.Frag) (F : Hp) : List V → List D → Prop
  | nil : RpL K F [] []
  | cons {v : V} {vs : List V} {d : D} {ds : List D} : Rp K F v d → RpL K F vs ds → RpL K F (v :: vs) (d :: ds)
end
mutual
theorem Rp.mono {K : PySem.W.Frag} {F G : Hp} (s : Sub F G) : ∀ {v : V} {d : D}, Rp K F v d → Rp K G v d
  | _, _, .non => .non
  | _, _, .bl b => .bl b
  | _, _, .int i => .int i
  | _, _, .str x => .str x
  | _, _, .lst h r => .lst (s.l h) (RpL.mono s r)
  | _, _, .tup h r => .tup (s.tp _ _ h) (RpL.mono s r)
  | _, _, .dK h e r => .dK (s.rd _ _ h) e (RpL.mono s r)
  | _, _, .dT h e r => .dT (s.rd _ _ h) e (RpL.mono s r)
  | _, _, .kt h n r => .kt h n (RpL.mono s r)
  | _, _, .opq h => .opq (s.rd _ _ h)
  | _, _, .fn h => .fn h
theorem RpL.mono {K : PySem.W.Frag} {F G : Hp} (s : Sub F G) : ∀ {vs : List V} {ds : List D}, RpL K F vs ds → RpL K G vs ds
  | _, _, .nil => .nil
  | _, _, .cons h r => .cons (Rp.mono s h) (RpL.mono s r)
end
theorem RpL.length {K : PySem.W.Frag} {F : Hp} : ∀ {vs : List V} {ds : List D}, RpL K F vs ds → vs.length = ds.length
  | _, _, .nil => rfl
  | _, _, .cons _ r => by rw [List.length_cons, List.length_cons, r.length]
theorem RpL.get {K : PySem.W.Frag} {F : Hp} : ∀ {vs : List V} {ds : List D} {i : Nat} {d : D}, RpL K F vs ds → ds[i]? = some d → ∃ v, vs[i]? = some v ∧ Rp K F v d
  | _, _, _, _, .nil, e => by simp at e
  | _, _, 0, _, .cons h _, e => by simp at e; subst e; exact ⟨_, rfl, h⟩
  | _, _, i + 1, d, .cons _ r, e => by
    obtain ⟨v, h1, h2⟩ := r.get (i := i) (d := d) (by simpa using e)
    exact ⟨v, by simpa using h1, h2⟩
theorem RpL.append {K : PySem.W.Frag} {F : Hp} : ∀ {vs us : List V} {ds es : List D}, RpL K F vs ds → RpL K F us es → RpL K F (vs ++ us) (ds ++ es)
  | _, _, _, _, .nil, r => r
  | _, _, _, _, .cons h t, r => .cons h (t.append r)
theorem RpL.take {K : PySem.W.Frag} {F : Hp} : ∀ {vs : List V} {ds : List D} (n : Nat), RpL K F vs ds → RpL K F (vs.take n) (ds.take n)
  | _, _, 0, _ => .nil
  | _, _, _ + 1, .nil => .nil
  | _, _, n + 1, .cons h t => .cons h (RpL.take n t)
theorem RpL.drop {K : PySem.W.Frag} {F : Hp} : ∀ {vs : List V} {ds : List D} (n : Nat), RpL K F vs ds → RpL K F (vs.drop n) (ds.drop n)
  | _, _, 0, r => r
  | _, _, _ + 1, .nil => .nil
  | _, _, n + 1, .cons _ t => RpL.drop n t
/-- an error's fields in the heap -/
def XRep (K : PySem.W.Frag) (F : Hp) (fs : List (Str × D)) (d : Option Addr) : Prop :=
  (fs = [] ∧ d = none) ∨ ∃ (dx : Addr) (fvs : List (Str × V)), d = some dx ∧ Rd F dx (.xd fvs) ∧ fvs.map (·.1) = fs.map (·.1) ∧ RpL K F (fvs.map (·.2)) (fs.map (·.2))
theorem XRep.mono {K : PySem.W.Frag} {F G : Hp} (s : Sub F G) {fs : List (Str × D)} {d : Option Addr} (x : XRep K F fs d) : XRep K G fs d :=
  x.imp id fun ⟨dx, fvs, e, r, n, l⟩ => ⟨dx, fvs, e, s.rd _ _ r, n, l.mono s⟩
/-- a caught error, as a thing that stands -/
def exq (a ca : Addr) (d : Option Addr) : HO := .ext fun h => ∃ (oe : Obj) (vs : Array Value), h.get? a = some oe ∧ Zc (.ref ca) d oe ∧ oe.data = .fields vs
theorem ex_exq (a ca : Addr) (d : Option Addr) : Exct (exq a ca d) := ⟨⟨(fun _ z => nomatch z), (fun _ z => nomatch z)⟩, (fun _ z => nomatch z)⟩
/-! ### what is owned -/
mutual
inductive Own (K : PySem.W.Frag) (F H : Hp) : V → M → List Addr → Prop
  | im {v : V} {d : D} : Rp K F v d → Own K F H v (.im d) []
  | gone {v : V} : Own K F H v .gone []
  | fz {a ca dx : Addr} {C : Str} {fs : List (Str × V)} {fds : List (Str × D)} : PySem.W.nsIn K mainGlobals C = some (some (.ref ca)) → F a = some (.ins ca dx fs) → fs.map (·.1) = fds.map (·.1) → RpL K F (fs.map (·.2)) (fds.map (·.2)) → Own K F H (.ref a) (.fz C fds) []
  | lm {v : V} {Φ : V → Hp → Prop} : (∀ G, Sub F G → Φ v G) → Own K F H v (.lm Φ) []
  | kt {a : Addr} {vs : List V} {ds : List D} : KTup K a vs → RpL K F vs ds → Own K F H (.ref a) (.kt ds) []
  | xc {a ca : Addr} {d : Option Addr} {C : Str} {fs : List (Str × D)} : PySem.W.nsIn K mainGlobals C = some (some (.ref ca)) → F a = some (exq a ca d) → XRep K F fs d → Own K F H (.ref a) (.xc C fs) []
  | tp {a : Addr} {vs : List V} {ms : List M} {fp : List Addr} : F a = some (.tup vs) → OwnL K F H vs ms fp → Own K F H (.ref a) (.tp ms) fp
  | ls {a : Addr} {vs : List V} {ms : List M} {fp : List Addr} : H a = some (.lst vs) → OwnL K F H vs ms fp → Own K F H (.ref a) (.ls ms) (a :: fp)
  | dk {a : Addr} {kvs : List (Key × V)} {kms : List (Key × M)} {fp : List Addr} : H a = some (.dK kvs) → kvs.map (·.1) = kms.map (·.1) → OwnL K F H (kvs.map (·.2)) (kms.map (·.2)) fp → Own K F H (.ref a) (.dk kms) (a :: fp)
  | dt {a : Addr} {kvs : List (List Key × V)} {kms : List (List Key × M)} {fp : List Addr} : H a = some (.dT kvs) → kvs.map (·.1) = kms.map (·.1) → OwnL K F H (kvs.map (·.2)) (kms.map (·.2)) fp → Own K F H (.ref a) (.dt kms) (a :: fp)
  | ob {a ca dx : Addr} {C : Str} {fs : List (Str × V)} {fms : List (Str × M)} {fp : List Addr} : PySem.W.nsIn K mainGlobals C = some (some (.ref ca)) → H a = some (.ins ca dx fs) → fs.map (·.1) = fms.map (·.1) → OwnL K F H (fs.map (·.2)) (fms.map (·.2)) fp → Own K F H (.ref a) (.ob C fms) (a :: fp)
inductive OwnL (K : PySem.W.Frag) (F H : Hp) : List V → List M → List Addr → Prop
  | nil : OwnL K F H [] [] []
  | cons {v : V} {vs : List V} {m : M} {ms : List M} {fp fq : List Addr} : Own K F H v m fp → OwnL K F H vs ms fq → OwnL K F H (v :: vs) (m :: ms) (fp ++ fq)
end
mutual
theorem Own.mono {K : PySem.W.Frag} {F G H J : Hp} (s : Sub F G) : ∀ {v : V} {m : M} {fp : List Addr}, (∀ a ∈ fp, ∀ o, H a = some o → J a = some o) → Own K F H v m fp → Own K G J v m fp
  | _, _, _, k, .im r => .im (r.mono s)
  | _, _, _, k, .gone => .gone
  | _, _, _, k, .fz hC h e r => .fz hC (s.ex _ _ (ex_ins _ _ _) h) e (r.mono s)
  | _, _, _, k, .lm h => .lm fun J q => h J (s.trans q)
  | _, _, _, k, .kt h r => .kt h (r.mono s)
  | _, _, _, k, .xc hC h r => .xc hC (s.ex _ _ (ex_exq _ _ _) h) (r.mono s)
  | _, _, _, k, .tp h r => .tp (s.tp _ _ h) (OwnL.mono s k r)
  | _, _, _, k, .ls h r => .ls (k _ (List.mem_cons_self) _ h) (OwnL.mono s (fun a q => k a (List.mem_cons_of_mem _ q)) r)
  | _, _, _, k, .dk h e r => .dk (k _ (List.mem_cons_self) _ h) e (OwnL.mono s (fun a q => k a (List.mem_cons_of_mem _ q)) r)
  | _, _, _, k, .dt h e r => .dt (k _ (List.mem_cons_self) _ h) e (OwnL.mono s (fun a q => k a (List.mem_cons_of_mem _ q)) r)
  | _, _, _, k, .ob hC h e r => .ob hC (k _ (List.mem_cons_self) _ h) e (OwnL.mono s (fun a q => k a (List.mem_cons_of_mem _ q)) r)
theorem OwnL.mono {K : PySem.W.Frag} {F G H J : Hp} (s : Sub F G) : ∀ {vs : List V} {ms : List M} {fp : List Addr}, (∀ a ∈ fp, ∀ o, H a = some o → J a = some o) → OwnL K F H vs ms fp → OwnL K G J vs ms fp
  | _, _, _, _, .nil => .nil
  | _, _, _, k, .cons h r => .cons (Own.mono s (fun a q => k a (List.mem_append_left _ q)) h) (OwnL.mono s (fun a q => k a (List.mem_append_right _ q)) r)
end
mutual
theorem Own.live {K : PySem.W.Frag} {F H : Hp} : ∀ {v : V} {m : M} {fp : List Addr}, Own K F H v m fp → ∀ a ∈ fp, ∃ o, H a = some o
  | _, _, _, .im r, a, q => by cases q
  | _, _, _, .gone, a, q => by cases q
  | _, _, _, .fz _ _ _ _, a, q => by cases q
  | _, _, _, .xc _ _ _, a, q => by cases q
  | _, _, _, .lm _, a, q => by cases q
  | _, _, _, .kt _ _, a, q => by cases q
  | _, _, _, .tp h r, a, q => r.live a q
  | _, _, _, .ls h r, a, q => (List.mem_cons.mp q).elim (fun e => e ▸ ⟨_, h⟩) (fun z => r.live a z)
  | _, _, _, .dk h _ r, a, q => (List.mem_cons.mp q).elim (fun e => e ▸ ⟨_, h⟩) (fun z => r.live a z)
  | _, _, _, .dt h _ r, a, q => (List.mem_cons.mp q).elim (fun e => e ▸ ⟨_, h⟩) (fun z => r.live a z)
  | _, _, _, .ob _ h _ r, a, q => (List.mem_cons.mp q).elim (fun e => e ▸ ⟨_, h⟩) (fun z => r.live a z)
theorem OwnL.live {K : PySem.W.Frag} {F H : Hp} : ∀ {vs : List V} {ms : List M} {fp : List Addr}, OwnL K F H vs ms fp → ∀ a ∈ fp, ∃ o, H a = some o
  | _, _, _, .nil, a, q => by cases q
  | _, _, _, .cons h r, a, q => (List.mem_append.mp q).elim (fun z => h.live a z) (fun z => r.live a z)
end
mutual
theorem Own.ntup {K : PySem.W.Frag} {F H : Hp} : ∀ {v : V} {m : M} {fp : List Addr}, Own K F H v m fp → ∀ a ∈ fp, ∀ w, H a ≠ some (fxO w)
  | _, _, _, .im r, a, q => by cases q
  | _, _, _, .gone, a, q => by cases q
  | _, _, _, .fz _ _ _ _, a, q => by cases q
  | _, _, _, .xc _ _ _, a, q => by cases q
  | _, _, _, .lm _, a, q => by cases q
  | _, _, _, .kt _ _, a, q => by cases q
  | _, _, _, .tp h r, a, q => r.ntup a q
  | _, _, _, .ls h r, a, q => (List.mem_cons.mp q).elim (fun e w z => by rw [e, h] at z; exact fx_lst (Option.some.inj z)) (fun z => r.ntup a z)
  | _, _, _, .dk h _ r, a, q => (List.mem_cons.mp q).elim (fun e w z => by rw [e, h] at z; exact fx_dk (Option.some.inj z)) (fun z => r.ntup a z)
  | _, _, _, .dt h _ r, a, q => (List.mem_cons.mp q).elim (fun e w z => by rw [e, h] at z; exact fx_dt (Option.some.inj z)) (fun z => r.ntup a z)
  | _, _, _, .ob _ h _ r, a, q => (List.mem_cons.mp q).elim (fun e w z => by rw [e, h] at z; exact fx_ins (Option.some.inj z)) (fun z => r.ntup a z)
theorem OwnL.ntup {K : PySem.W.Frag} {F H : Hp} : ∀ {vs : List V} {ms : List M} {fp : List Addr}, OwnL K F H vs ms fp → ∀ a ∈ fp, ∀ w, H a ≠ some (fxO w)
  | _, _, _, .nil, a, q => by cases q
  | _, _, _, .cons h r, a, q => (List.mem_append.mp q).elim (fun z => h.ntup a z) (fun z => r.ntup a z)
end
mutual
theorem Own.nx {K : PySem.W.Frag} {F H : Hp} : ∀ {v : V} {m : M} {fp : List Addr}, Own K F H v m fp → ∀ a ∈ fp, ∀ o, H a = some o → (∀ ps, o ≠ .tbl ps) ∧ ∀ f, o ≠ .ext f
  | _, _, _, .im r, a, q => by cases q
  | _, _, _, .gone, a, q => by cases q
  | _, _, _, .fz _ _ _ _, a, q => by cases q
  | _, _, _, .xc _ _ _, a, q => by cases q
  | _, _, _, .lm _, a, q => by cases q
  | _, _, _, .kt _ _, a, q => by cases q
  | _, _, _, .tp h r, a, q => r.nx a q
  | _, _, _, .ls h r, a, q => (List.mem_cons.mp q).elim (fun e o z => by rw [e, h] at z; cases z; exact ⟨(fun _ z => by cases z), (fun _ z => by cases z)⟩) (fun z => r.nx a z)
  | _, _, _, .dk h _ r, a, q => (List.mem_cons.mp q).elim (fun e o z => by rw [e, h] at z; cases z; exact ⟨(fun _ z => by cases z), (fun _ z => by cases z)⟩) (fun z => r.nx a z)
  | _, _, _, .dt h _ r, a, q => (List.mem_cons.mp q).elim (fun e o z => by rw [e, h] at z; cases z; exact ⟨(fun _ z => by cases z), (fun _ z => by cases z)⟩) (fun z => r.nx a z)
  | _, _, _, .ob _ h _ r, a, q => (List.mem_cons.mp q).elim (fun e o z => by rw [e, h] at z; cases z; exact ⟨(fun _ z => by cases z), (fun _ z => by cases z)⟩) (fun z => r.nx a z)
theorem OwnL.nx {K : PySem.W.Frag} {F H : Hp} : ∀ {vs : List V} {ms : List M} {fp : List Addr}, OwnL K F H vs ms fp → ∀ a ∈ fp, ∀ o, H a = some o → (∀ ps, o ≠ .tbl ps) ∧ ∀ f, o ≠ .ext f
  | _, _, _, .nil, a, q => by cases q
  | _, _, _, .cons h r, a, q => (List.mem_append.mp q).elim (fun z => h.nx a z) (fun z => r.nx a z)
end
/-- a row of data, held by an owner -/
theorem OwnL.ims {K : PySem.W.Frag} {F H : Hp} : ∀ {vs : List V} {ds : List D}, RpL K F vs ds → OwnL K F H vs (ds.map M.im) []
  | _, _, .nil => .nil
  | _, _, .cons h r => OwnL.cons (fp := []) (fq := []) (.im h) (OwnL.ims r)
theorem OwnL.of_ims {K : PySem.W.Frag} {F H : Hp} : ∀ {vs : List V} {ds : List D} {fp : List Addr}, OwnL K F H vs (ds.map M.im) fp → RpL K F vs ds ∧ fp = []
  | _, [], _, .nil => ⟨.nil, rfl⟩
  | _, _ :: _, _, .cons h r => by
    cases h with
    | im h =>
      obtain ⟨q, e⟩ := OwnL.of_ims r
      subst e
      exact ⟨.cons h q, rfl⟩
theorem OwnL.length {K : PySem.W.Frag} {F H : Hp} : ∀ {vs : List V} {ms : List M} {fp : List Addr}, OwnL K F H vs ms fp → vs.length = ms.length
  | _, _, _, .nil => rfl
  | _, _, _, .cons _ r => by rw [List.length_cons, List.length_cons, r.length]
/-! ### the state -/
/-- nothing stands there, or a tuple -/
def Nw (H : Hp) (a : Addr) : Prop := ∀ o, H a = some o → ∃ vs, o = fxO vs
theorem nw_of {H : Hp} {a : Addr} (h : H a = none) : Nw H a := fun o q => by rw [h] at q; cases q
section
variable [TabT]
/-- from one state's heaps to another's: P what may be changed -/
structure Stp (F H : Hp) (P : Addr → Prop) (F' H' : Hp) (P' : Addr → Prop) : Prop where
  ext : Sub F F'
  keep : ∀ a o, H a = some o → ¬ P a → (F a = none ∨ ∃ vs, o = fxO vs) → Nt o → H' a = some o
  live : ∀ a, H' a = none → H a = none
  tbl : ∀ a ps, H a = some (.tbl ps) → ∃ ps', H' a = some (.tbl ps')
  newF : ∀ a, F' a ≠ none → F a ≠ none ∨ P a ∨ Nw H a
  newP : ∀ a, P' a → P a ∨ H a = none
theorem Stp.refl (F H : Hp) (P : Addr → Prop) : Stp F H P F H P := ⟨Sub.refl F, fun _ _ h _ _ _ => h, fun _ h => h, fun _ _ h => ⟨_, h⟩, fun _ h => .inl h, fun _ h => .inl h⟩
theorem Stp.nw {F H F1 H1 : Hp} {P P1 : Addr → Prop} (a : Stp F H P F1 H1 P1) {x : Addr} (p : ¬ P x) (f : F x = none) (q : Nw H1 x) : Nw H x := fun o ho => by
  by_cases t : Nt o
  · exact q o (a.keep x o ho p (.inl f) t)
  · obtain ⟨ps, e⟩ := Classical.not_forall.mp t
    obtain ⟨p1, h1⟩ := a.tbl x ps (by rw [ho, Classical.not_not.mp e])
    obtain ⟨vs, z⟩ := q _ h1
    exact (fx_tbl z).elim
theorem Stp.trans {F H F1 H1 F2 H2 : Hp} {P P1 P2 : Addr → Prop} (a : Stp F H P F1 H1 P1) (b : Stp F1 H1 P1 F2 H2 P2) : Stp F H P F2 H2 P2 where
  ext := a.ext.trans b.ext
  keep := fun x o h n f t => b.keep x o (a.keep x o h n f t) (fun q => (a.newP x q).elim n fun z => by rw [h] at z; cases z) (by
    rcases f with f | f
    · cases e : F1 x with
      | none => exact .inl rfl
      | some o1 =>
        rcases a.newF x (by rw [e]; intro z; cases z) with z | z | z
        · exact absurd f z
        · exact absurd z n
        · exact .inr (z o h)
    · exact .inr f) t
  live := fun x h => a.live x (b.live x h)
  tbl := fun x ps h => by
    obtain ⟨p1, h1⟩ := a.tbl x ps h
    exact b.tbl x p1 h1
  newF := fun x h => by
    rcases b.newF x h with q | q | q
    · exact a.newF x q
    · rcases a.newP x q with z | z
      · exact .inr (.inl z)
      · exact .inr (.inr (nw_of z))
    · by_cases p : P x
      · exact .inr (.inl p)
      · by_cases f : F x = none
        · exact .inr (.inr (a.nw p f q))
        · exact .inl f
  newP := fun x h => by
    rcases b.newP x h with q | q
    · exact a.newP x q
    · exact .inr (a.live x q)
/-- what is no table and no code object may change -/
theorem tabs_upd {T : List (Addr × Str)} {H : Hp} {p : Addr} {o u : HO} (t : LamX.Tabs T H) (h : H p = some u) (n1 : Nt u) (n2 : ∀ f, u ≠ .ext f) : LamX.Tabs T (upd H p o) := fun q hq => by
  obtain ⟨ps, h1, h2, h3⟩ := t q hq
  have ne : ∀ b v, H b = some v → (¬ Nt v ∨ ∃ f, v = .ext f) → b ≠ p := fun b v hb hv z => by
    rw [z, h] at hb
    cases hb
    rcases hv with hv | ⟨f, hv⟩
    · exact hv n1
    · exact n2 f hv
  refine ⟨ps, by rw [upd_ne (ne _ _ h1 (.inl fun z => z ps rfl))]; exact h1, h2, fun pos cv hc => ?_⟩
  obtain ⟨c, e1, e2⟩ := h3 pos cv hc
  exact ⟨c, e1, by rw [upd_ne (ne _ _ e2 (.inr ⟨_, rfl⟩))]; exact e2⟩
theorem nt_lst (xs : List V) : Nt (.lst xs) := fun _ z => by cases z
theorem tabs_new {T : List (Addr × Str)} {H : Hp} {p : Addr} {o : HO} (t : LamX.Tabs T H) (h : H p = none) : LamX.Tabs T (upd H p o) := t.ext fun b v hb => by rw [upd_ne (ne_of_none hb h)]; exact hb
def Pf (fp : Nat → List Addr) : Addr → Prop := fun a => ∃ i, a ∈ fp i
/-- the slots hold what the environment says; bv: slots that may not be stored to, with what they hold -/
structure SS (K : PySem.W.Frag) (bv : Nat → Option V) (e : Env) (σ : St) (F H : Hp) (fp : Nat → List Addr) : Prop where
  sub : Sub F H
  own : ∀ i m, e[i]? = some (some m) → ∃ v, σ[i]? = some (some v) ∧ Own K F H v m (fp i)
  nil : ∀ i a, a ∈ fp i → ∃ m, e[i]? = some (some m)
  nd : ∀ i, (fp i).Nodup
  dj : ∀ i j a, a ∈ fp i → a ∈ fp j → i = j
  fr : ∀ i a, a ∈ fp i → F a = none
  bor : ∀ i v, bv i = some v → σ[i]? = some (some v)
  len : e.length = σ.length
  tab : LamX.Tabs TabT.tabs H
theorem SS.live {K : PySem.W.Frag} {bv : Nat → Option V} {e : Env} {σ : St} {F H : Hp} {fp : Nat → List Addr} (S : SS K bv e σ F H fp) {i : Nat} {a : Addr} (h : a ∈ fp i) : ∃ o, H a = some o := by
  obtain ⟨m, q⟩ := S.nil i a h
  obtain ⟨v, _, o⟩ := S.own i m q
  exact o.live a h
theorem SS.ntup {K : PySem.W.Frag} {bv : Nat → Option V} {e : Env} {σ : St} {F H : Hp} {fp : Nat → List Addr} (S : SS K bv e σ F H fp) {i : Nat} {a : Addr} (h : a ∈ fp i) (vs) : H a ≠ some (fxO vs) := by
  obtain ⟨m, q⟩ := S.nil i a h
  obtain ⟨v, _, o⟩ := S.own i m q
  exact o.ntup a h vs
theorem SS.nx {K : PySem.W.Frag} {bv : Nat → Option V} {e : Env} {σ : St} {F H : Hp} {fp : Nat → List Addr} (S : SS K bv e σ F H fp) {i : Nat} {a : Addr} (h : a ∈ fp i) {o : HO} (ho : H a = some o) : Nt o ∧ ∀ f, o ≠ .ext f := by
  obtain ⟨m, q⟩ := S.nil i a h
  obtain ⟨v, _, ow⟩ := S.own i m q
  exact ow.nx a h o ho
/-- the tables stand, whatever is done at an owned place -/
theorem SS.tabs {K : PySem.W.Frag} {bv : Nat → Option V} {e : Env} {σ : St} {F H : Hp} {fp : Nat → List Addr} (S : SS K bv e σ F H fp) {i : Nat} {a : Addr} (h : a ∈ fp i) (o : HO) : LamX.Tabs TabT.tabs (upd H a o) := by
  obtain ⟨u, hu⟩ := S.live h
  obtain ⟨n1, n2⟩ := S.nx h hu
  exact tabs_upd S.tab hu n1 n2
theorem tbl_new {H : Hp} {a : Addr} {o : HO} (h : H a = none) (b : Addr) (ps : Array Value) (hb : H b = some (.tbl ps)) : ∃ ps', upd H a o b = some (.tbl ps') := ⟨ps, by rw [upd_ne (ne_of_none hb h)]; exact hb⟩
theorem SS.tabK {K : PySem.W.Frag} {bv : Nat → Option V} {e : Env} {σ : St} {F H H' : Hp} {fp : Nat → List Addr} (S : SS K bv e σ F H fp) (k : ∀ b u, H b = some u → ¬ Pf fp b → H' b = some u) : LamX.Tabs TabT.tabs H' := fun q hq => by
  obtain ⟨ps, h1, h2, h3⟩ := S.tab q hq
  refine ⟨ps, k _ _ h1 fun ⟨i, z⟩ => (S.nx z h1).1 ps rfl, h2, fun pos cv hc => ?_⟩
  obtain ⟨c, e1, e2⟩ := h3 pos cv hc
  exact ⟨c, e1, k _ _ e2 fun ⟨i, z⟩ => (S.nx z e2).2 _ rfl⟩
/-- other heaps that keep what the slots own -/
theorem SS.heap {K : PySem.W.Frag} {bv : Nat → Option V} {e : Env} {σ : St} {F H F' H' : Hp} {fp : Nat → List Addr} (S : SS K bv e σ F H fp) (s : Sub F F') (sub : Sub F' H') (k : ∀ i a o, a ∈ fp i → H a = some o → H' a = some o) (fr : ∀ i a, a ∈ fp i → F' a = none)
    (tab : LamX.Tabs TabT.tabs H' := by first | exact SS.tab (by assumption) | exact tabs_new (SS.tab (by assumption)) (by assumption) | exact SS.tabs (by assumption) (by assumption) _ | exact tabs_upd (SS.tab (by assumption)) (by assumption) (fun _ z => by cases z) (fun _ z => by cases z)) : SS K bv e σ F' H' fp where
  sub := sub
  own := fun i m h => by
    obtain ⟨v, q, o⟩ := S.own i m h
    exact ⟨v, q, o.mono s fun a z u hu => k i a u z hu⟩
  nil := S.nil
  nd := S.nd
  dj := S.dj
  fr := fr
  bor := S.bor
  len := S.len
  tab := tab
/-- a new thing that nobody will change -/
theorem SS.new {K : PySem.W.Frag} {bv : Nat → Option V} {e : Env} {σ : St} {F H : Hp} {fp : Nat → List Addr} {p : Addr} {o : HO} (S : SS K bv e σ F H fp) (hp : H p = none) : SS K bv e σ (upd F p o) (upd H p o) fp :=
  S.heap (Sub.new (S.sub.non hp)) S.sub.both (fun i a u h q => by
    have ne : a ≠ p := ne_of_none q hp
    rw [upd_ne ne]
    exact q) (fun i a h => by
      obtain ⟨u, q⟩ := S.live h
      rw [upd_ne (ne_of_none q hp)]
      exact S.fr i a h) (tabs_new S.tab hp)
theorem Stp.new {F H : Hp} {P : Addr → Prop} {p : Addr} {o : HO} (s : Sub F H) (hp : H p = none) : Stp F H P (upd F p o) (upd H p o) P where
  ext := Sub.new (s.non hp)
  keep := fun a u h _ _ _ => by
    rw [upd_ne (ne_of_none h hp)]
    exact h
  live := fun a h => by
    by_cases e : a = p
    · subst e; exact hp
    · rw [upd_ne e] at h; exact h
  tbl := fun a ps h => ⟨ps, by rw [upd_ne (ne_of_none h hp)]; exact h⟩
  newF := fun a h => by
    by_cases e : a = p
    · subst e; exact .inr (.inr (nw_of hp))
    · rw [upd_ne e] at h; exact .inl h
  newP := fun _ h => .inl h
/-! ### the judgements' readings -/
/-- the class of that name -/
def clsV (K : PySem.W.Frag) (C : Str) : Value := match PySem.W.nsIn K mainGlobals C with
  | some (some v) => v
  | _ => .none
inductive Flow where
  | nxt
  | brk
  | cnt
  | ret (m : M)
/-- what a result is: from the heaps, the footprints, what may be changed behind it, the layer's result, the denoted one -/
abbrev RG (τ α : Type) := Hp → Hp → (Nat → List Addr) → (Addr → Prop) → τ → α → Prop
/-- a result that nobody owns -/
def smp {τ α : Type} (r : Hp → τ → α → Prop) : RG τ α := fun F _ fp P x a => P = Pf fp ∧ r F x a
def rD (K : PySem.W.Frag) : Hp → V → D → Prop := fun F v d => Rp K F v d
def rL (K : PySem.W.Frag) : Hp → List V → List D → Prop := fun F v d => RpL K F v d
def rB : Hp → Bool → Bool → Prop := fun _ x b => x = b
/-- a result that is owned by whoever takes it -/
def rM (K : PySem.W.Frag) : RG V M := fun F H fp P v m => ∃ fpr : List Addr, P = (fun a => Pf fp a ∨ a ∈ fpr) ∧ Own K F H v m fpr ∧ fpr.Nodup ∧ (∀ a ∈ fpr, ¬ Pf fp a) ∧ ∀ a ∈ fpr, F a = none
section
variable (K : PySem.W.Frag) (W : WX) (bv : Nat → Option V)
def AtG {τ α : Type} (R : RG τ α) (f : EM α) (e : Env) (σ : St) (F H : Hp) (fp : Nat → List Addr) (Q : τ → Hp → Prop) : Prop := match f e with
  | .ok a e' => ∀ x F' H' fp' P', Stp F H (Pf fp) F' H' P' → SS K bv e' σ F' H' fp' → R F' H' fp' P' x a → Q x H'
  | .ex C fs e' => ∀ F' H' fp' dx, Stp F H (Pf fp) F' H' (Pf fp') → SS K bv e' σ F' H' fp' → XRep K F' fs dx → W (clsV K C) dx σ H'
  | .no => False
def tG {τ α : Type} (R : RG τ α) (f : EM α) : St → Hp → (τ → Hp → Prop) → Prop := fun σ H Q => ∃ e F fp, SS K bv e σ F H fp ∧ AtG K W bv R f e σ F H fp Q
/-- an expression that gives data; one that gives a thing to own; a test; arguments -/
abbrev tE (f : EM D) : TE := tG K W bv (smp (rD K)) f
abbrev tM (f : EM M) : TE := tG K W bv (rM K) f
abbrev tT (f : EM Bool) : TT := tG K W bv (smp rB) f
abbrev tA (f : EM (List D)) : TA := tG K W bv (smp (rL K)) f
def OutS (o : Out Flow) (F H : Hp) (fp : Nat → List Addr) (D : Ends) : Prop := match o with
  | .ok .nxt e' => ∀ σ' F' H' fp', Stp F H (Pf fp) F' H' (Pf fp') → SS K bv e' σ' F' H' fp' → D.nx σ' H'
  | .ok .brk e' => ∀ σ' F' H' fp', Stp F H (Pf fp) F' H' (Pf fp') → SS K bv e' σ' F' H' fp' → D.bk σ' H'
  | .ok .cnt e' => ∀ σ' F' H' fp', Stp F H (Pf fp) F' H' (Pf fp') → SS K bv e' σ' F' H' fp' → D.ct σ' H'
  | .ok (.ret m) e' => ∀ v σ' F' H' fp' P', Stp F H (Pf fp) F' H' P' → SS K bv e' σ' F' H' fp' → rM K F' H' fp' P' v m → D.rt v H'
  | .ex C fs e' => ∀ σ' F' H' fp' dx, Stp F H (Pf fp) F' H' (Pf fp') → SS K bv e' σ' F' H' fp' → XRep K F' fs dx → W (clsV K C) dx σ' H'
  | .no => False
def AtS (g : EM Flow) (e : Env) (σ : St) (F H : Hp) (fp : Nat → List Addr) (D : Ends) : Prop := OutS K W bv (g e) F H fp D
def tS (g : EM Flow) : TS := fun D σ H => ∃ e F fp, SS K bv e σ F H fp ∧ AtS K W bv g e σ F H fp D
end
section
variable {K : PySem.W.Frag} {W : WX} {bv : Nat → Option V} {e : Env} {σ : St} {F H : Hp} {fp : Nat → List Addr} {τ α τ' β : Type}
/-- from further back -/
theorem AtG.back {R : RG τ α} {f : EM α} {F0 H0 : Hp} {fp0 : Nat → List Addr} {Q : τ → Hp → Prop} (s : Stp F0 H0 (Pf fp0) F H (Pf fp)) (h : AtG K W bv R f e σ F0 H0 fp0 Q) : AtG K W bv R f e σ F H fp Q := by
  unfold AtG at h ⊢
  cases q : f e with
  | no => rw [q] at h; exact h
  | ex C fs e' => rw [q] at h; exact fun F' H' fp' dx s' => h F' H' fp' dx (s.trans s')
  | ok a e' => rw [q] at h; exact fun x F' H' fp' P' s' => h x F' H' fp' P' (s.trans s')
/-- two steps -/
theorem AtG.bnd {R : RG τ' β} {r : Hp → τ → α → Prop} {f : EM α} {k : α → EM β} {Q : τ' → Hp → Prop} (h : AtG K W bv R (bnd f k) e σ F H fp Q) :
    AtG K W bv (smp r) f e σ F H fp fun x H1 => ∃ a e1 F1 fp1, f e = .ok a e1 ∧ Stp F H (Pf fp) F1 H1 (Pf fp1) ∧ SS K bv e1 σ F1 H1 fp1 ∧ r F1 x a ∧ AtG K W bv R (k a) e1 σ F1 H1 fp1 Q := by
  unfold AtG FD.bnd at h
  unfold AtG
  cases q : f e with
  | no => rw [q] at h; exact h
  | ex C fs e' => rw [q] at h; exact h
  | ok d e' =>
    rw [q] at h
    intro v F1 H1 fp1 P1 s1 S1 r1
    obtain ⟨rfl, r1⟩ := r1
    refine ⟨d, e', F1, fp1, rfl, s1, S1, r1, AtG.back s1 ?_⟩
    unfold AtG
    exact h
theorem tG.bnd {R : RG τ' β} {r : Hp → τ → α → Prop} {f : EM α} {k : α → EM β} {Q : τ' → Hp → Prop} (h : tG K W bv R (bnd f k) σ H Q) :
    tG K W bv (smp r) f σ H fun x H1 => ∃ a e1 F1 fp1, SS K bv e1 σ F1 H1 fp1 ∧ r F1 x a ∧ AtG K W bv R (k a) e1 σ F1 H1 fp1 Q := by
  obtain ⟨e, F, fp, S, h⟩ := h
  refine ⟨e, F, fp, S, ?_⟩
  have q := AtG.bnd (r := r) h
  unfold AtG at q ⊢
  cases z : f e with
  | no => rw [z] at q; exact q
  | ex C fs e' => rw [z] at q; exact q
  | ok a e' =>
    rw [z] at q
    intro x F' H' fp' P' s' S' r'
    obtain ⟨a, e1, F1, fp1, _, _, S1, r1, h1⟩ := q x F' H' fp' P' s' S' r'
    exact ⟨a, e1, F1, fp1, S1, r1, h1⟩
/-- the same, known where one stands -/
theorem AtG.bnd' {R : RG τ' β} {r : Hp → τ → α → Prop} {f : EM α} {k : α → EM β} {Q : τ' → Hp → Prop} (S : SS K bv e σ F H fp) (h : AtG K W bv R (FD.bnd f k) e σ F H fp Q) :
    tG K W bv (smp r) f σ H fun x H1 => ∃ a e1 F1 fp1, Sub F F1 ∧ SS K bv e1 σ F1 H1 fp1 ∧ r F1 x a ∧ AtG K W bv R (k a) e1 σ F1 H1 fp1 Q := by
  refine ⟨e, F, fp, S, ?_⟩
  have q := AtG.bnd (r := r) h
  unfold AtG at q ⊢
  cases z : f e with
  | no => rw [z] at q; exact q
  | ex C fs e' => rw [z] at q; exact q
  | ok a e' =>
    rw [z] at q
    intro x F' H' fp' P' s' S' r'
    obtain ⟨a, e1, F1, fp1, _, s1, S1, r1, h1⟩ := q x F' H' fp' P' s' S' r'
    exact ⟨a, e1, F1, fp1, s1.ext, S1, r1, h1⟩
/-- the end: data that stands already -/
theorem AtG.here {r : Hp → τ → α → Prop} {a : α} {Q : τ → Hp → Prop} {x : τ} (S : SS K bv e σ F H fp) (h : AtG K W bv (smp r) (FD.ret a) e σ F H fp Q) (hr : r F x a) : Q x H :=
  h x F H fp _ (Stp.refl _ _ _) S ⟨rfl, hr⟩
/-- the end: a new thing that nobody changes -/
theorem AtG.made {r : Hp → τ → α → Prop} {a : α} {Q : τ → Hp → Prop} {x : τ} {p : Addr} {o : HO} (S : SS K bv e σ F H fp) (h : AtG K W bv (smp r) (FD.ret a) e σ F H fp Q) (hp : H p = none) (hr : r (upd F p o) x a) : Q x (upd H p o) :=
  h x _ _ fp _ (Stp.new S.sub hp) (S.new hp) ⟨rfl, hr⟩
theorem AtG.lif {R : RG τ α} {o : Option α} {Q : τ → Hp → Prop} (h : AtG K W bv R (FD.lif o) e σ F H fp Q) : ∃ a, o = some a ∧ AtG K W bv R (FD.ret a) e σ F H fp Q := by
  cases o with
  | none => exact False.elim h
  | some a => exact ⟨a, rfl, h⟩
end
end
end FD
/-! FD: expressions: names, constants, operators, tests, displays. -/
namespace FD
variable [TabT]
open PySem L2
abbrev DE (X : Cx) (W : WX) (bv : Nat → Option V) (e : Expr) (f : EM D) : Prop := PE X e (tE X.K W bv f)
abbrev DM (X : Cx) (W : WX) (bv : Nat → Option V) (e : Expr) (f : EM M) : Prop := PE X e (tM X.K W bv f)
abbrev DT (X : Cx) (W : WX) (bv : Nat → Option V) (e : Expr) (f : EM Bool) : Prop := PT X e (tT X.K W bv f)
abbrev DA (X : Cx) (W : WX) (bv : Nat → Option V) (es : List Expr) (f : EM (List D)) : Prop := PA X es (tA X.K W bv f)
abbrev DS (X : Cx) (W : WX) (bv : Nat → Option V) (st : Stmt) (g : EM Flow) : Prop := PS X st (tS X.K W bv g)
abbrev DSs (X : Cx) (W : WX) (bv : Nat → Option V) (sts : List Stmt) (g : EM Flow) : Prop := PSs X sts (tS X.K W bv g)
theorem pe_imp {X : Cx} {e : Expr} {t t' : TE} (h : PE X e t) (w : ∀ σ H Q, t' σ H Q → t σ H Q) : PE X e t' := ⟨fun pins s σ H Q I q => h.run pins s σ H Q I (w σ H Q q)⟩
theorem pt_imp {X : Cx} {e : Expr} {t t' : TT} (h : PT X e t) (w : ∀ σ H Q, t' σ H Q → t σ H Q) : PT X e t' := ⟨fun pins s σ H Q I q => h.run pins s σ H Q I (w σ H Q q)⟩
theorem pw_imp {X : Cx} {e : Expr} {t t' : TT} (h : PW X e t) (w : ∀ σ H Q, t' σ H Q → t σ H Q) : PW X e t' := ⟨fun wh pins s σ H Q I q => h.run wh pins s σ H Q I (w σ H Q q)⟩
theorem pa_imp {X : Cx} {e : List Expr} {t t' : TA} (h : PA X e t) (w : ∀ σ H Q, t' σ H Q → t σ H Q) : PA X e t' := ⟨fun pos pins s σ H Q I q => h.run pos pins s σ H Q I (w σ H Q q)⟩
theorem ps_imp {X : Cx} {e : Stmt} {t t' : TS} (h : PS X e t) (w : ∀ D σ H, t' D σ H → t D σ H) : PS X e t' := ⟨fun pins s σ H D I q => h.run pins s σ H D I (w D σ H q)⟩
theorem pss_imp {X : Cx} {e : List Stmt} {t t' : TS} (h : PSs X e t) (w : ∀ D σ H, t' D σ H → t D σ H) : PSs X e t' := ⟨fun pins s σ H D I q => h.run pins s σ H D I (w D σ H q)⟩
section
variable {K : PySem.W.Frag} {W : WX} {bv : Nat → Option V} {e : Env} {σ : St} {F H : Hp} {fp : Nat → List Addr} {τ α τ' β : Type}
theorem tG.mono {R : RG τ α} {f : EM α} {Q Q' : τ → Hp → Prop} (h : tG K W bv R f σ H Q) (hq : ∀ x H', Q x H' → Q' x H') : tG K W bv R f σ H Q' := by
  obtain ⟨e, F, fp, S, h⟩ := h
  refine ⟨e, F, fp, S, ?_⟩
  unfold AtG at h ⊢
  cases q : f e with
  | no => rw [q] at h; exact h
  | ex C fs e' => rw [q] at h; exact h
  | ok d e' => rw [q] at h; exact fun v F' H' fp' P' s S r => hq v H' (h v F' H' fp' P' s S r)
end
/-! ### constants, names -/
/-- data without an address -/
def flatD : D → Bool
  | .none => true
  | .bool _ => true
  | .int _ => true
  | .str _ => true
  | _ => false
def flatOf : D → V
  | .none => .non
  | .bool b => .bl b
  | .int i => .int i
  | .str x => .str x
  | _ => .non
theorem Rp.flat {K : PySem.W.Frag} {F : Hp} : ∀ {d : D}, flatD d = true → Rp K F (flatOf d) d
  | .none, _ => .non
  | .bool b, _ => .bl b
  | .int i, _ => .int i
  | .str x, _ => .str x
theorem Rp.flat_eq {K : PySem.W.Frag} {F : Hp} {v : V} : ∀ {d : D}, flatD d = true → Rp K F v d → v = flatOf d
  | .none, _, .non => rfl
  | .bool b, _, .bl _ => rfl
  | .int i, _, .int _ => rfl
  | .str x, _, .str _ => rfl
section
variable {X : Cx} {W : WX} {bv : Nat → Option V} {pos : Pos}
theorem de_c {e : Expr} {v : V} {d : D} (h : PE X e (tC v)) (r : ∀ F : Hp, Rp X.K F v d) : DE X W bv e (ret d) :=
  pe_imp h fun σ H Q ⟨e, F, fp, S, q⟩ => AtG.here S q (r F)
theorem de_int {i : Int} {j} : DE X W bv (.Constant (.int i) j pos) (ret (.int i)) := de_c pe_int fun _ => .int i
theorem de_bl {b : Bool} {j} : DE X W bv (.Constant (.bool b) j pos) (ret (.bool b)) := de_c pe_bl fun _ => .bl b
theorem de_non {j} : DE X W bv (.Constant .none j pos) (ret .none) := de_c pe_non fun _ => .non
theorem de_str {x : Str} {j} : DE X W bv (.Constant (.str x) j pos) (ret (.str x)) := de_c pe_str fun _ => .str x
/-- a module's name that holds flat data -/
theorem de_glob {x : Str} {d : D} {u : Value} (hf : flatD d = true) (hm : X.mg x = some u) (r : RelV (flatOf d) u) (hg : Gl X x := by rfl) (hd : (x == ("__debug__" : Str)) = false := by decide) : DE X W bv (.Name x pos) (ret d) :=
  de_c (pe_glob hg hm r hd) fun _ => Rp.flat hf
def imAll : List M → Option (List D)
  | [] => some []
  | .im d :: ms => (imAll ms).map (d :: ·)
  | _ :: _ => none
theorem imAll_im : ∀ ds : List D, imAll (ds.map M.im) = some ds
  | [] => rfl
  | d :: ds => by
    show (imAll (ds.map M.im)).map (d :: ·) = _
    rw [imAll_im ds]
    rfl
theorem of_imAll : ∀ {ms : List M} {ds : List D}, imAll ms = some ds → ms = ds.map M.im
  | [], _, h => by cases h; rfl
  | .im d :: ms, ds, h => by
    simp only [imAll, Option.map_eq_some_iff] at h
    obtain ⟨a, h1, h2⟩ := h
    subst h2
    rw [List.map_cons, ← of_imAll h1]
  | .ls _ :: _, _, h => by cases h
  | .dk _ :: _, _, h => by cases h
  | .dt _ :: _, _, h => by cases h
  | .ob _ _ :: _, _, h => by cases h
  | .gone :: _, _, h => by cases h
  | .tp _ :: _, _, h => by cases h
  | .fz _ _ :: _, _, h => by cases h
  | .xc _ _ :: _, _, h => by cases h
  | .lm _ :: _, _, h => by cases h
  | .kt _ :: _, _, h => by cases h
def M.toD : M → Option D
  | .im d => some d
  | .ls ms => (imAll ms).map .list
  | .dk kvs => (imAll (kvs.map (·.2))).map fun ds => .dict (((kvs.map (·.1)).zip ds).map fun p => (keyD p.1, p.2))
  | .dt kvs => (imAll (kvs.map (·.2))).map fun ds => .dict (((kvs.map (·.1)).zip ds).map fun p => (.tuple (p.1.map keyD), p.2))
  | .ob _ _ => none
  | .gone => none
  | .tp _ => none
  | .fz _ _ => none
  | .xc _ _ => none
  | .lm _ => none
  | .kt _ => none
/-- the heap F, but H at some places -/
def ov (H F : Hp) (l : List Addr) : Hp := fun a => if a ∈ l then H a else F a
theorem ov_in {H F : Hp} {l : List Addr} {a : Addr} (h : a ∈ l) : ov H F l a = H a := if_pos h
theorem ov_out {H F : Hp} {l : List Addr} {a : Addr} (h : a ∉ l) : ov H F l a = F a := if_neg h
def put (fp : Nat → List Addr) (i : Nat) (l : List Addr) : Nat → List Addr := fun j => if j = i then l else fp j
theorem put_same {fp : Nat → List Addr} {i : Nat} {l : List Addr} : put fp i l i = l := if_pos rfl
theorem put_ne {fp : Nat → List Addr} {i j : Nat} {l : List Addr} (h : j ≠ i) : put fp i l j = fp j := if_neg h
theorem Sub.ov {F H : Hp} {l : List Addr} (h : ∀ a ∈ l, F a = none) : Sub F (ov H F l) where
  rdN := fun a u _ r => rd_at (ov_out fun z => rd_none (h a z) r) r
  ex := fun a u _ q => by
    rw [ov_out fun z => by rw [h a z] at q; cases q]
    exact q
  nn := fun a q => by
    by_cases n : a ∈ l
    · exact h a n
    · rw [ov_out n] at q; exact q
theorem Sub.of_ov {F H : Hp} {l : List Addr} (s : Sub F H) : Sub (FD.ov H F l) H where
  rdN := fun a u t r => by
    by_cases n : a ∈ l
    · exact rd_at (ov_in n).symm r
    · exact s.rdN a u t (rd_at (ov_out n).symm r)
  nn := fun a q => by
    by_cases n : a ∈ l
    · rw [ov_in n]; exact q
    · rw [ov_out n]; exact s.nn a q
  ex := fun a u x q => by
    by_cases n : a ∈ l
    · rw [ov_in n] at q
      exact q
    · rw [ov_out n] at q
      exact s.ex a u x q
theorem Own.frozen {K : PySem.W.Frag} {F H : Hp} {v : V} {m : M} {d : D} {l : List Addr} (o : Own K F H v m l) (fr : ∀ a ∈ l, F a = none) (hd : m.toD = some d) : Rp K (ov H F l) v d := by
  have sF : Sub F (ov H F l) := Sub.ov fr
  cases o with
  | im r =>
    cases hd
    exact r.mono sF
  | ls h r =>
    rename_i a vs ms fp0
    obtain ⟨ds, h1, rfl⟩ := Option.map_eq_some_iff.mp hd
    rw [of_imAll h1] at r
    exact .lst (.inl (.inl ((ov_in List.mem_cons_self).trans h))) (r.of_ims.1.mono sF)
  | dk h k r =>
    rename_i a kvs kms fp0
    obtain ⟨ds, h1, rfl⟩ := Option.map_eq_some_iff.mp hd
    rw [of_imAll h1] at r
    have hl : (kms.map (·.1)).length = ds.length := by
      have := congrArg List.length (of_imAll h1)
      simpa using this
    refine .dK (kds := (kms.map (·.1)).zip ds) (.inl ((ov_in List.mem_cons_self).trans h)) ?_ ?_
    · rw [List.map_fst_zip (Nat.le_of_eq hl)]
      exact k
    · rw [List.map_snd_zip (Nat.le_of_eq hl.symm)]
      exact r.of_ims.1.mono sF
  | dt h k r =>
    rename_i a kvs kms fp0
    obtain ⟨ds, h1, rfl⟩ := Option.map_eq_some_iff.mp hd
    rw [of_imAll h1] at r
    have hl : (kms.map (·.1)).length = ds.length := by
      have := congrArg List.length (of_imAll h1)
      simpa using this
    refine .dT (kds := (kms.map (·.1)).zip ds) (.inl ((ov_in List.mem_cons_self).trans h)) ?_ ?_
    · rw [List.map_fst_zip (Nat.le_of_eq hl)]
      exact k
    · rw [List.map_snd_zip (Nat.le_of_eq hl.symm)]
      exact r.of_ims.1.mono sF
  | ob _ h k r => cases hd
  | gone => cases hd
  | tp _ _ => cases hd
  | fz _ _ _ _ => cases hd
  | xc _ _ _ => cases hd
  | lm _ => cases hd
  | kt _ _ => cases hd
/-- slot i holds something else that it owns; the rest is kept -/
theorem SS.put {K : PySem.W.Frag} {bv : Nat → Option V} {e : Env} {σ σ' : St} {F H F' H' : Hp} {fp : Nat → List Addr} {i : Nat} {v : V} {m : M} {l : List Addr} (S : SS K bv e σ F H fp) (sF : Sub F F') (sub : Sub F' H')
    (hi : i < e.length) (hv : σ'[i]? = some (some v)) (ho : ∀ j, j ≠ i → σ'[j]? = σ[j]?) (hl : σ'.length = σ.length) (hb : ∀ u, bv i = some u → u = v) (o : Own K F' H' v m l) (nd : l.Nodup) (fr : ∀ a ∈ l, F' a = none) (dj : ∀ j, j ≠ i → ∀ a ∈ fp j, a ∉ l)
    (k : ∀ j, j ≠ i → ∀ a ∈ fp j, ∀ u, H a = some u → H' a = some u) (frk : ∀ j, j ≠ i → ∀ a ∈ fp j, F' a = none)
    (tab : LamX.Tabs TabT.tabs H' := by first | exact SS.tab (by assumption) | exact tabs_new (SS.tab (by assumption)) (by assumption) | exact SS.tabs (by assumption) (by assumption) _ | exact tabs_upd (SS.tab (by assumption)) (by assumption) (fun _ z => by cases z) (fun _ z => by cases z)) : SS K bv (e.set i (some m)) σ' F' H' (put fp i l) where
  sub := sub
  own := fun j m' h => by
    by_cases n : j = i
    · subst n
      rw [List.getElem?_set_self hi] at h
      cases h
      rw [put_same]
      exact ⟨v, hv, o⟩
    · rw [List.getElem?_set_ne (Ne.symm n)] at h
      obtain ⟨u, hu, q⟩ := S.own j m' h
      rw [put_ne n, ho j n]
      exact ⟨u, hu, q.mono sF fun a z u => k j n a z u⟩
  nil := fun j a h => by
    by_cases n : j = i
    · subst n
      rw [List.getElem?_set_self hi]
      exact ⟨m, rfl⟩
    · rw [put_ne n] at h
      rw [List.getElem?_set_ne (Ne.symm n)]
      exact S.nil j a h
  nd := fun j => by
    by_cases n : j = i
    · subst n; rw [put_same]; exact nd
    · rw [put_ne n]; exact S.nd j
  dj := fun j z a h1 h2 => by
    by_cases n : j = i
    · rw [n, put_same] at h1
      by_cases n' : z = i
      · exact n.trans n'.symm
      · rw [put_ne n'] at h2
        exact absurd h1 (dj z n' a h2)
    · by_cases n' : z = i
      · rw [n', put_same] at h2
        rw [put_ne n] at h1
        exact absurd h2 (dj j n a h1)
      · rw [put_ne n] at h1
        rw [put_ne n'] at h2
        exact S.dj j z a h1 h2
  fr := fun j a h => by
    by_cases n : j = i
    · subst n; rw [put_same] at h; exact fr a h
    · rw [put_ne n] at h; exact frk j n a h
  bor := fun j u h => by
    by_cases n : j = i
    · subst n; rw [hv, hb u h]
    · rw [ho j n]; exact S.bor j u h
  len := by rw [List.length_set, hl]; exact S.len
  tab := tab
/-- what is owned becomes data that nobody changes any more -/
theorem SS.freeze {K : PySem.W.Frag} {bv : Nat → Option V} {e : Env} {σ : St} {F H : Hp} {fp : Nat → List Addr} {i : Nat} {m : M} {d : D} (S : SS K bv e σ F H fp) (he : e[i]? = some (some m)) (hd : m.toD = some d) :
    ∃ F' fp' v, Stp F H (Pf fp) F' H (Pf fp') ∧ SS K bv (e.set i (some (.im d))) σ F' H fp' ∧ σ[i]? = some (some v) ∧ Rp K F' v d := by
  obtain ⟨v, hv, o⟩ := S.own i m he
  have sF : Sub F (ov H F (fp i)) := Sub.ov fun a h => S.fr i a h
  have rp : Rp K (ov H F (fp i)) v d := o.frozen (fun a h => S.fr i a h) hd
  have hi : i < e.length := (List.getElem?_eq_some_iff.mp he).1
  refine ⟨_, FD.put fp i [], v, ⟨sF, fun _ _ h _ _ _ => h, fun _ h => h, fun _ _ h => ⟨_, h⟩, fun a h => ?_, fun a h => ?_⟩, S.put sF S.sub.of_ov hi hv (fun _ _ => rfl) rfl (fun u hu => ?_) (.im rp) List.nodup_nil (fun a h => by cases h) (fun _ _ _ _ h => by cases h) (fun _ _ _ _ _ h => h) (fun j n a h => ?_), hv, rp⟩
  · by_cases n : a ∈ fp i
    · exact .inr (.inl ⟨i, n⟩)
    · rw [ov_out n] at h
      exact .inl h
  · obtain ⟨j, h⟩ := h
    by_cases n : j = i
    · subst n; rw [put_same] at h; cases h
    · rw [put_ne n] at h
      exact .inl ⟨j, h⟩
  · have q := S.bor i u hu
    rw [hv] at q
    cases q
    rfl
  · rw [ov_out fun q => n (S.dj j i a h q)]
    exact S.fr j a h
/-- a name: data, or what was owned, from then on data -/
def var (i : Nat) : EM D := fun e => match e[i]? with
  | some (some (.im d)) => .ok d e
  | some (some m) => match m.toD with
    | some d => .ok d (e.set i (some (.im d)))
    | none => .no
  | _ => .no
theorem var_at {K : PySem.W.Frag} {bv : Nat → Option V} {e : Env} {σ : St} {F H : Hp} {fp : Nat → List Addr} {i : Nat} {Q : VK} (S : SS K bv e σ F H fp) (h : AtG K W bv (smp (rD K)) (var i) e σ F H fp Q) : ∃ v, σ[i]? = some (some v) ∧ Q v H := by
  unfold AtG var at h
  cases q : e[i]? with
  | none => rw [q] at h; exact h.elim
  | some o =>
    rw [q] at h
    cases o with
    | none => exact h.elim
    | some m =>
      cases m with
      | im d =>
        obtain ⟨v, hv, r⟩ := S.own i _ q
        generalize fp i = l at r
        cases r with
        | im r => exact ⟨v, hv, h v F H fp _ (Stp.refl _ _ _) S ⟨rfl, r⟩⟩
      | _ =>
        simp only at h
        split at h
        · rename_i d hd
          split at hd
          · rename_i d' z
            injection hd with h1 h2
            subst h1 h2
            obtain ⟨F', fp', v, s', S', hv, r⟩ := S.freeze q z
            exact ⟨v, hv, h v F' H fp' _ s' S' ⟨rfl, r⟩⟩
          · cases hd
        · rename_i z
          split at z <;> cases z
        · exact h.elim
theorem de_var (i : Nat) {x : Str} (hN : X.N[i]? = some x := by rfl) (hv : Vis X.env.scope x := by first | exact Or.inl rfl | exact Or.inr (Or.inl rfl) | exact Or.inr (Or.inr rfl)) (hd : (x == ("__debug__" : Str)) = false := by decide)
    (hcd : (x == ("__classdict__" : Str)) = false := by decide) : DE X W bv (.Name x pos) (var i) :=
  pe_imp (pe_var hN hv hd hcd) fun σ H Q ⟨e, F, fp, S, q⟩ => var_at S q
end
end FD
/-! FD: operators, comparisons, tests, displays, subscripts. -/
namespace FD
variable [TabT]
open PySem L2
def bin (g : D → D → Option D) (fa fb : EM D) : EM D := bnd fa fun x => bnd fb fun y => lif (g x y)
def un (g : D → Option D) (fa : EM D) : EM D := bnd fa fun x => lif (g x)
/-- an operation of two values serves one of two data -/
def OpV (K : PySem.W.Frag) (r : R2) (g : D → D → Option D) : Prop := ∀ (W : WX) (bv : Nat → Option V) (e : Env) (σ : St) (F H : Hp) (fp : Nat → List Addr) (x y : V) (d1 d2 : D) (Q : VK),
  SS K bv e σ F H fp → Rp K F x d1 → Rp K F y d2 → AtG K W bv (smp (rD K)) (lif (g d1 d2)) e σ F H fp Q → r x y H Q
def OpD (X : Cx) (f : Value → Value → Sem Value) (g : D → D → Option D) : Prop := ∃ r : R2, OpR X f r ∧ OpV X.K r g
section
variable {K : PySem.W.Frag} {W : WX} {bv : Nat → Option V} {e : Env} {σ : St} {F H : Hp} {fp : Nat → List Addr}
theorem tOp_of {r : R2} {g : D → D → Option D} {fa fb : EM D} {Q : VK} (h : OpV K r g) (t : tE K W bv (bin g fa fb) σ H Q) : tOp r (tE K W bv fa) (tE K W bv fb) σ H Q := by
  refine tG.mono (tG.bnd (r := rD K) t) fun x H1 ⟨d1, e1, F1, fp1, S1, r1, q1⟩ => ?_
  refine tG.mono (AtG.bnd' (r := rD K) S1 q1) fun y H2 ⟨d2, e2, F2, fp2, s2, S2, r2, q2⟩ => ?_
  exact h W bv e2 σ F2 H2 fp2 x y d1 d2 Q S2 (r1.mono s2) r2 q2
end
section
variable {X : Cx} {W : WX} {bv : Nat → Option V} {pos : Pos} {a b c : Expr} {fa fb fc : EM D}
theorem de_bin {op : Operator} {g : D → D → Option D} (ho : OpD X (binaryOp op) g) (ha : DE X W bv a fa) (hb : DE X W bv b fb) : DE X W bv (.BinOp a op b pos) (bin g fa fb) := by
  obtain ⟨r, hr, h⟩ := ho
  exact pe_imp (pe_op hr ha hb) fun σ H Q t => tOp_of h t
theorem de_cmp {op : CmpOp} {g : D → D → Option D} (ho : OpD X (compareOp op) g) (ha : DE X W bv a fa) (hb : DE X W bv b fb) (hm : behindInMarks op b = false := by first | exact nomark _ | rfl) : DE X W bv (.Compare a [op] [b] pos) (bin g fa fb) := by
  obtain ⟨r, hr, h⟩ := ho
  exact pe_imp (pe_cmpR hr ha hb hm) fun σ H Q t => tOp_of h t
/-- the truth of True, False -/
def tst (f : EM D) : EM Bool := bnd f fun d => match d with
  | .bool b => ret b
  | _ => lif none
theorem tst_of {K : PySem.W.Frag} {σ : St} {H : Hp} {Q : Bool → Hp → Prop} (t : tT K W bv (tst fa) σ H Q) : tE K W bv fa σ H fun x H1 => ∃ k, x = .bl k ∧ Q k H1 := by
  refine tG.mono (tG.bnd (r := rD K) t) fun x H1 ⟨d1, e1, F1, fp1, S1, r1, q1⟩ => ?_
  cases r1 with
  | bl k => exact ⟨k, rfl, AtG.here (r := rB) S1 q1 rfl⟩
  | _ => exact q1.elim
theorem dt_val (ha : DE X W bv a fa) (he : ∀ whole, isTrue a X.env whole = (do let v ← whole; standAt a.pos; holding [v] (truthy v)) := by intro _; rfl) : DT X W bv a (tst fa) :=
  pt_imp (pt_val ha he) fun σ H Q t => tst_of t
theorem dt_cmp {op : CmpOp} {g : D → D → Option D} (ho : OpD X (compareOp op) g) (ha : DE X W bv a fa) (hb : DE X W bv b fb) (hm : behindInMarks op b = false := by first | exact nomark _ | rfl) : DT X W bv (.Compare a [op] [b] pos) (tst (bin g fa fb)) := by
  obtain ⟨r, hr, h⟩ := ho
  refine pt_imp (pt_cmpR hr ha hb hm) fun σ H Q t => ?_
  exact tOp_of h (tst_of t)
variable {ta tb : EM Bool}
def andT (ta tb : EM Bool) : EM Bool := bnd ta fun k => if k then tb else ret false
def orT (ta tb : EM Bool) : EM Bool := bnd ta fun k => if k then ret true else tb
def notT (ta : EM Bool) : EM Bool := bnd ta fun k => ret (!k)
abbrev DW (X : Cx) (W : WX) (bv : Nat → Option V) (e : Expr) (f : EM Bool) : Prop := PW X e (tT X.K W bv f)
variable {rest : List Expr}
theorem dw_and1 (h : DT X W bv a ta) : DW X W bv (.BoolOp .And [a] pos) ta := pw_and1 h
theorem dw_or1 (h : DT X W bv a ta) : DW X W bv (.BoolOp .Or [a] pos) ta := pw_or1 h
theorem dw_and (h : DT X W bv a ta) (h2 : DW X W bv (.BoolOp .And (b :: rest) pos) tb) : DW X W bv (.BoolOp .And (a :: b :: rest) pos) (andT ta tb) :=
  pw_imp (pw_and h h2) fun σ H Q t => by
    refine tG.mono (tG.bnd (r := rB) t) fun x H1 ⟨k, e1, F1, fp1, S1, r1, q1⟩ => ?_
    cases (show x = k from r1)
    cases x with
    | true => exact ⟨e1, F1, fp1, S1, q1⟩
    | false => exact AtG.here (r := rB) S1 q1 rfl
theorem dw_or (h : DT X W bv a ta) (h2 : DW X W bv (.BoolOp .Or (b :: rest) pos) tb) : DW X W bv (.BoolOp .Or (a :: b :: rest) pos) (orT ta tb) :=
  pw_imp (pw_or h h2) fun σ H Q t => by
    refine tG.mono (tG.bnd (r := rB) t) fun x H1 ⟨k, e1, F1, fp1, S1, r1, q1⟩ => ?_
    cases (show x = k from r1)
    cases x with
    | true => exact AtG.here (r := rB) S1 q1 rfl
    | false => exact ⟨e1, F1, fp1, S1, q1⟩
theorem dt_w (h : DW X W bv a ta) : DT X W bv a ta := PW.pt h
theorem dt_not (h : DT X W bv a ta) : DT X W bv (.UnaryOp .Not a pos) (notT ta) :=
  pt_imp (pt_not h) fun σ H Q t => by
    refine tG.mono (tG.bnd (r := rB) t) fun x H1 ⟨k, e1, F1, fp1, S1, r1, q1⟩ => ?_
    cases (show x = k from r1)
    exact AtG.here (r := rB) S1 q1 rfl
/-- and, or, not of True, False as values -/
def andV (fa fb : EM D) : EM D := bnd fa fun d => match d with
  | .bool true => fb
  | .bool false => ret (.bool false)
  | _ => lif none
def orV (fa fb : EM D) : EM D := bnd fa fun d => match d with
  | .bool true => ret (.bool true)
  | .bool false => fb
  | _ => lif none
def notV (fa : EM D) : EM D := bnd fa fun d => match d with
  | .bool k => ret (.bool (!k))
  | _ => lif none
theorem de_one {op} (h : DE X W bv a fa) : DE X W bv (.BoolOp op [a] pos) fa := pe_one h
theorem de_and (h : DE X W bv a fa) (h2 : DE X W bv (.BoolOp .And (b :: rest) pos) fb) : DE X W bv (.BoolOp .And (a :: b :: rest) pos) (andV fa fb) :=
  pe_imp (pe_and h h2) fun σ H Q t => by
    refine tG.mono (tG.bnd (r := rD X.K) t) fun x H1 ⟨d, e1, F1, fp1, S1, r1, q1⟩ => ?_
    cases r1 with
    | bl k =>
      cases k with
      | true => exact ⟨true, rfl, e1, F1, fp1, S1, q1⟩
      | false => exact ⟨false, rfl, AtG.here (r := rD X.K) S1 q1 (.bl false)⟩
    | _ => exact q1.elim
theorem de_or (h : DE X W bv a fa) (h2 : DE X W bv (.BoolOp .Or (b :: rest) pos) fb) : DE X W bv (.BoolOp .Or (a :: b :: rest) pos) (orV fa fb) :=
  pe_imp (pe_or h h2) fun σ H Q t => by
    refine tG.mono (tG.bnd (r := rD X.K) t) fun x H1 ⟨d, e1, F1, fp1, S1, r1, q1⟩ => ?_
    cases r1 with
    | bl k =>
      cases k with
      | true => exact ⟨true, rfl, AtG.here (r := rD X.K) S1 q1 (.bl true)⟩
      | false => exact ⟨false, rfl, e1, F1, fp1, S1, q1⟩
    | _ => exact q1.elim
theorem de_not (h : DE X W bv a fa) : DE X W bv (.UnaryOp .Not a pos) (notV fa) :=
  pe_imp (pe_not h) fun σ H Q t => by
    refine tG.mono (tG.bnd (r := rD X.K) t) fun x H1 ⟨d, e1, F1, fp1, S1, r1, q1⟩ => ?_
    cases r1 with
    | bl k => exact ⟨k, rfl, AtG.here (r := rD X.K) S1 q1 (.bl _)⟩
    | _ => exact q1.elim
def ifE (t : EM Bool) (fa fb : EM D) : EM D := bnd t fun k => if k then fa else fb
theorem de_if {c : Expr} (hc : DT X W bv c ta) (ha : DE X W bv a fa) (hb : DE X W bv b fb) : DE X W bv (.IfExp c a b pos) (ifE ta fa fb) :=
  pe_imp (pe_ifExp hc ha hb) fun σ H Q t => by
    refine tG.mono (tG.bnd (r := rB) t) fun x H1 ⟨k, e1, F1, fp1, S1, r1, q1⟩ => ?_
    cases (show x = k from r1)
    cases x with
    | true => exact ⟨e1, F1, fp1, S1, q1⟩
    | false => exact ⟨e1, F1, fp1, S1, q1⟩
/-- x < y < z -/
def chn (g g' : D → D → Option D) (fa fb fc : EM D) : EM D := bnd fa fun x => bnd fb fun y => bnd (lif (g x y)) fun k => match k with
  | .bool true => bnd fc fun z => lif (g' y z)
  | .bool false => ret (.bool false)
  | _ => lif none
/-! ### arguments, displays -/
def nilA : EM (List D) := ret []
def consA (f : EM D) (g : EM (List D)) : EM (List D) := bnd f fun d => bnd g fun ds => ret (d :: ds)
variable {es : List Expr} {fs : EM (List D)}
theorem da_nil : DA X W bv [] nilA := pa_imp pa_nil fun σ H Q ⟨e, F, fp, S, q⟩ => AtG.here (r := rL X.K) S q .nil
theorem da_cons (h : DE X W bv a fa) (hr : DA X W bv es fs) (hs : starEach (a :: es) X.env = (false, eval a X.env) :: starEach es X.env := by rfl) : DA X W bv (a :: es) (consA fa fs) :=
  pa_imp (pa_cons h hr hs) fun σ H Q t => by
    refine tG.mono (tG.bnd (r := rD X.K) t) fun x H1 ⟨d, e1, F1, fp1, S1, r1, q1⟩ => ?_
    refine tG.mono (AtG.bnd' (r := rL X.K) S1 q1) fun xs H2 ⟨ds, e2, F2, fp2, s2, S2, r2, q2⟩ => ?_
    exact AtG.here (r := rL X.K) S2 q2 (.cons (Rp.mono s2 r1) r2)
/-- as long as a thing may be -/
def few (n : Nat) : Bool := decide (n ≤ 1000000)
theorem few_le {n : Nat} (h : few n = true) : n ≤ sizeLine := Nat.le_trans (of_decide_eq_true h) (by decide)
def tupE (fs : EM (List D)) : EM D := bnd fs fun ds => lif (if few ds.length then some (.tuple ds) else none)
def lstE (fs : EM (List D)) : EM D := bnd fs fun ds => lif (if few ds.length then some (.list ds) else none)
theorem de_tup {k} (h : DA X W bv es fs) : DE X W bv (.Tuple es k pos) (tupE fs) :=
  pe_imp (pe_tup h) fun σ H Q t => by
    refine tG.mono (tG.bnd (r := rL X.K) t) fun xs H1 ⟨ds, e1, F1, fp1, S1, r1, q1⟩ => ?_
    obtain ⟨d, hd, q⟩ := q1.lif
    split at hd
    · rename_i hz
      cases hd
      refine ⟨by rw [RpL.length r1]; exact few_le hz, fun p hp => ?_⟩
      exact AtG.made (r := rD X.K) S1 q hp (.tup upd_same (RpL.mono (Sub.new (S1.sub.non hp)) r1))
    · cases hd
theorem de_lst (h : DA X W bv es fs) : DE X W bv (.List es pos) (lstE fs) :=
  pe_imp (pe_lst h) fun σ H Q t => by
    refine tG.mono (tG.bnd (r := rL X.K) t) fun xs H1 ⟨ds, e1, F1, fp1, S1, r1, q1⟩ => ?_
    obtain ⟨d, hd, q⟩ := q1.lif
    split at hd
    · rename_i hz
      cases hd
      refine ⟨by rw [RpL.length r1]; exact few_le hz, fun p hp => ?_⟩
      exact AtG.made (r := rD X.K) S1 q hp (.lst (.inl (.inl upd_same)) (RpL.mono (Sub.new (S1.sub.non hp)) r1))
    · cases hd
end
/-! ### operations on data -/
section
variable {K : PySem.W.Frag} {X : Cx}
/-- a rule on flat results: what is told is flat -/
theorem at_flat {W : WX} {bv : Nat → Option V} {e : Env} {σ : St} {F H : Hp} {fp : Nat → List Addr} {d : D} {o : Option D} {Q : VK} (S : SS K bv e σ F H fp) (h : AtG K W bv (smp (rD K)) (lif o) e σ F H fp Q) (ho : o = some d) (hf : flatD d = true) : Q (flatOf d) H := by
  subst ho
  exact AtG.here (r := rD K) S h (Rp.flat hf)
def intOp (C : Int → Int → Bool) (g : Int → Int → Int) : D → D → Option D
  | .int i, .int j => if C i j then some (.int (g i j)) else none
  | _, _ => none
theorem opv_int {C : Int → Int → Bool} {g : Int → Int → Int} {P : Int → Int → Prop} (h : ∀ i j, C i j = true → P i j) : OpV K (rI P fun i j => .int (g i j)) (intOp C g) := by
  intro W bv e σ F H fp x y d1 d2 Q S r1 r2 q
  cases r1 <;> cases r2 <;> first | exact q.elim | skip
  rename_i i j
  by_cases c : C i j = true
  · exact ⟨i, j, rfl, rfl, h i j c, at_flat (d := .int (g i j)) S q (by simp only [intOp]; rw [if_pos c]) rfl⟩
  · simp only [intOp] at q
    rw [if_neg c] at q
    exact q.elim
def allI : Int → Int → Bool := fun _ _ => true
theorem opv_int0 {g : Int → Int → Int} : OpV K (rI0 fun i j => .int (g i j)) (intOp allI g) := by
  intro W bv e σ F H fp x y d1 d2 Q S r1 r2 q
  cases r1 <;> cases r2 <;> first | exact q.elim | skip
  rename_i i j
  exact ⟨i, j, rfl, rfl, at_flat S q rfl rfl⟩
def intCmp (g : Int → Int → Bool) : D → D → Option D
  | .int i, .int j => some (.bool (g i j))
  | _, _ => none
theorem opv_cmp {g : Int → Int → Bool} : OpV K (rI0 fun i j => .bl (g i j)) (intCmp g) := by
  intro W bv e σ F H fp x y d1 d2 Q S r1 r2 q
  cases r1 <;> cases r2 <;> first | exact q.elim | skip
  rename_i i j
  exact ⟨i, j, rfl, rfl, at_flat S q rfl rfl⟩
def subD : D → D → Option D := intOp allI (· - ·)
def modD : D → D → Option D := intOp (fun _ j => decide (0 < j)) (· % ·)
def fdvD : D → D → Option D := intOp (fun _ j => decide (0 < j) && decide (j < 1073741824)) (· / ·)
def powD : D → D → Option D := intOp (fun i j => decide (0 ≤ j) && decide (j ≤ 1000) && decide (i.natAbs < 2 ^ 64)) (fun i j => i ^ j.toNat)
def leI : D → D → Option D := intCmp fun i j => decide (i ≤ j)
def gtI : D → D → Option D := intCmp fun i j => decide (j < i)
def geI : D → D → Option D := intCmp fun i j => decide (j ≤ i)
theorem od_sub : OpD X (binaryOp .Sub) subD := ⟨_, op_sub, opv_int0⟩
theorem od_mod : OpD X (binaryOp .Mod) modD := ⟨_, op_mod, opv_int fun _ _ h => of_decide_eq_true h⟩
theorem od_fdv : OpD X (binaryOp .FloorDiv) fdvD := ⟨_, op_fdiv, opv_int fun _ _ h => by simpa [CDiv] using h⟩
theorem od_pow : OpD X (binaryOp .Pow) powD := ⟨_, op_pow, opv_int fun i j h => by
  simp only [Bool.and_eq_true, decide_eq_true_eq] at h
  exact ⟨h.1.1, by omega, h.2⟩⟩
theorem od_le : OpD X (compareOp .LtE) leI := ⟨_, op_le, opv_cmp⟩
theorem od_gt : OpD X (compareOp .Gt) gtI := ⟨_, op_gt, opv_cmp⟩
theorem od_ge : OpD X (compareOp .GtE) geI := ⟨_, op_ge, opv_cmp⟩
end
end FD
/-! FD: == and in, + and *, is, subscripts, slices, chains. -/
namespace FD
variable [TabT]
open PySem L2
section
variable {K : PySem.W.Frag} {X : Cx} {W : WX} {bv : Nat → Option V} {pos : Pos} {a b c : Expr} {fa fb fc : EM D}
/-! ### data without dicts -/
mutual
theorem Rp.dp {F H : Hp} (s : Sub F H) : ∀ {v : V} {d : D}, d.canLay0 = true → Rp K F v d → Dp K H v d
  | _, _, _, .non => .non
  | _, _, _, .bl b => .bl b
  | _, _, _, .int i => .int i
  | _, _, _, .str x => .str x
  | _, _, h, .lst q r => .lst (s.l q) (RpL.dp s (by simpa [PyData.canLay0] using h) r)
  | _, _, h, .tup q r => .tup (s.t q) (RpL.dp s (by simpa [PyData.canLay0] using h) r)
  | _, _, h, .dK _ _ _ => by simp [PyData.canLay0] at h
  | _, _, h, .dT _ _ _ => by simp [PyData.canLay0] at h
  | _, _, h, .kt _ _ _ => by simp [ktD, PyData.canLay0] at h
  | _, _, h, .opq _ => by simp [opqK, PyData.canLay0] at h
  | _, _, h, .fn _ => by simp [fnK, PyData.canLay0] at h
theorem RpL.dp {F H : Hp} (s : Sub F H) : ∀ {vs : List V} {ds : List D}, PyData.canLayAll0 ds = true → RpL K F vs ds → DpAll K H vs ds
  | _, _, _, .nil => .nil
  | _, _, h, .cons q r => by
    simp only [PyData.canLayAll0, Bool.and_eq_true] at h
    exact .cons (Rp.dp s h.1 q) (RpL.dp s h.2 r)
end
theorem lay_of {d : D} (h : SeqAt.shaped d = true) : d.canLay0 = true := SeqAt.canLay_of_shaped h
/-! ### == -/
def scalD (d1 d2 : D) : Bool := flatD d1 && flatD d2 && scal (flatOf d1) (flatOf d2)
def eqOk (d1 d2 : D) : Bool := scalD d1 d2 || (SeqAt.shaped d1 && SeqAt.shaped d2)
def eqD (d1 d2 : D) : Option D := if eqOk d1 d2 then some (.bool (PyData.eqv d1 d2)) else none
def neD (d1 d2 : D) : Option D := if eqOk d1 d2 then some (.bool (!PyData.eqv d1 d2)) else none
theorem scal_eqv : ∀ {d1 d2 : D}, scalD d1 d2 = true → decide (flatOf d1 = flatOf d2) = PyData.eqv d1 d2 := by
  intro d1 d2 h
  cases d1 <;> cases d2 <;> first | (simp [scalD, flatD] at h; done) | (simp [scalD, flatD, flatOf, scal] at h; done) | (simp [flatOf, PyData.eqv]; done) | skip
  · rename_i a b
    cases a <;> cases b <;> simp [flatOf, PyData.eqv]
  · rename_i a b
    simp only [flatOf, PyData.eqv, V.int.injEq]
    exact (Bool.beq_eq_decide_eq a b).symm
  · rename_i a b
    simp only [flatOf, PyData.eqv, V.str.injEq]
    exact (Bool.beq_eq_decide_eq a b).symm
theorem opv_eq : OpV K (fun x y H Q => rEq x y H Q ∨ rEqD K x y H Q) eqD := by
  intro W bv e σ F H fp x y d1 d2 Q S r1 r2 q
  unfold eqD eqOk at q
  by_cases h1 : scalD d1 d2 = true
  · rw [h1, Bool.true_or, if_pos rfl] at q
    have z := scal_eqv h1
    simp only [scalD, Bool.and_eq_true] at h1
    refine .inl ?_
    rw [r1.flat_eq h1.1.1, r2.flat_eq h1.1.2]
    refine ⟨h1.2, ?_⟩
    rw [z]
    exact AtG.here (r := rD K) S q (.bl _)
  · rw [Bool.not_eq_true] at h1
    rw [h1, Bool.false_or] at q
    by_cases h2 : (SeqAt.shaped d1 && SeqAt.shaped d2) = true
    · rw [if_pos h2] at q
      rw [Bool.and_eq_true] at h2
      exact .inr ⟨d1, d2, r1.dp S.sub (lay_of h2.1), r2.dp S.sub (lay_of h2.2), h2.1, h2.2, AtG.here (r := rD K) S q (.bl _)⟩
    · rw [if_neg h2] at q
      exact q.elim
theorem opv_ne : OpV K (fun x y H Q => rNe x y H Q ∨ rNeD K x y H Q) neD := by
  intro W bv e σ F H fp x y d1 d2 Q S r1 r2 q
  unfold neD eqOk at q
  by_cases h1 : scalD d1 d2 = true
  · rw [h1, Bool.true_or, if_pos rfl] at q
    have z := scal_eqv h1
    simp only [scalD, Bool.and_eq_true] at h1
    refine .inl ?_
    rw [r1.flat_eq h1.1.1, r2.flat_eq h1.1.2]
    refine ⟨h1.2, ?_⟩
    rw [z]
    exact AtG.here (r := rD K) S q (.bl _)
  · rw [Bool.not_eq_true] at h1
    rw [h1, Bool.false_or] at q
    by_cases h2 : (SeqAt.shaped d1 && SeqAt.shaped d2) = true
    · rw [if_pos h2] at q
      rw [Bool.and_eq_true] at h2
      exact .inr ⟨d1, d2, r1.dp S.sub (lay_of h2.1), r2.dp S.sub (lay_of h2.2), h2.1, h2.2, AtG.here (r := rD K) S q (.bl _)⟩
    · rw [if_neg h2] at q
      exact q.elim
theorem od_eq {k : Nat} (hr : Room k X.A) : OpD X (compareOp .Eq) eqD := ⟨_, OpR.or op_eq (op_eqD hr.units), opv_eq⟩
theorem od_ne {k : Nat} (hr : Room k X.A) : OpD X (compareOp .NotEq) neD := ⟨_, OpR.or op_ne (op_neD hr.units), opv_ne⟩
/-! ### is None, is True -/
def isD : D → D → Option D
  | d, .none => some (.bool (match d with | .none => true | _ => false))
  | .bool a, .bool b => some (.bool (decide (a = b)))
  | _, _ => none
def isnD : D → D → Option D
  | d, .none => some (.bool (match d with | .none => false | _ => true))
  | .bool a, .bool b => some (.bool (!decide (a = b)))
  | _, _ => none
theorem od_is : OpD X (compareOp .Is) isD := by
  refine ⟨_, OpR.or op_isN op_isBl, ?_⟩
  intro W bv e σ F H fp x y d1 d2 Q S r1 r2 q
  cases r2 with
  | non =>
    refine .inl ⟨rfl, ?_⟩
    cases r1 <;> exact AtG.here (r := rD X.K) S q (.bl _)
  | bl b =>
    cases r1 with
    | bl a => exact .inr ⟨a, b, rfl, rfl, AtG.here (r := rD X.K) S q (.bl _)⟩
    | _ => exact q.elim
  | _ => cases r1 <;> exact q.elim
theorem od_isn : OpD X (compareOp .IsNot) isnD := by
  refine ⟨_, OpR.or op_notN op_notBl, ?_⟩
  intro W bv e σ F H fp x y d1 d2 Q S r1 r2 q
  cases r2 with
  | non =>
    refine .inl ⟨rfl, ?_⟩
    cases r1 <;> exact AtG.here (r := rD X.K) S q (.bl _)
  | bl b =>
    cases r1 with
    | bl a => exact .inr ⟨a, b, rfl, rfl, AtG.here (r := rD X.K) S q (.bl _)⟩
    | _ => exact q.elim
  | _ => cases r1 <;> exact q.elim
/-! ### in -/
def flatAll (ds : List D) : Bool := ds.all flatD
theorem RpL.flat_eq {F : Hp} : ∀ {vs : List V} {ds : List D}, flatAll ds = true → RpL K F vs ds → vs = ds.map flatOf
  | _, _, _, .nil => rfl
  | _, _, h, .cons q r => by
    simp only [flatAll, List.all_cons, Bool.and_eq_true] at h
    rw [List.map_cons, q.flat_eq h.1, RpL.flat_eq h.2 r]
theorem flat_flatV : ∀ {d : D}, flatD d = true → flatV (flatOf d) = true := by
  intro d h
  cases d <;> first | rfl | cases h
theorem flat_eqV : ∀ {d1 d2 : D}, flatD d1 = true → flatD d2 = true → eqV (flatOf d1) (flatOf d2) = PyData.eqv d1 d2 := by
  intro d1 d2 h1 h2
  cases d1 <;> first | (cases h1; done) | (cases d2 <;> first | (cases h2; done) | simp [flatOf, eqV, PyData.eqv])
theorem flat_inV {d : D} : ∀ {ds : List D}, flatD d = true → flatAll ds = true → inV (flatOf d) (ds.map flatOf) = ds.any (fun z => PyData.eqv z d)
  | [], _, _ => rfl
  | x :: ds, h, hs => by
    simp only [flatAll, List.all_cons, Bool.and_eq_true] at hs
    have ih := flat_inV (ds := ds) h hs.2
    unfold inV at ih ⊢
    rw [List.map_cons, List.any_cons, List.any_cons, ih, flat_eqV hs.1 h]
/-- whether one is among some -/
def memD (d : D) (ds : List D) : Bool := ds.any fun z => PyData.eqv z d
def inOk (d : D) (ds : List D) : Bool := (flatD d && flatAll ds) || (SeqAt.shaped d && SeqAt.shaped (.list ds))
def inTOk (d : D) (ds : List D) : Bool := flatD d && flatAll ds
/-- a text in a text -/
def subS (x y : Str) : Bool := !(Builtin.Str.occurrences y x 0 y.length 1).isEmpty
def inB (d : D) : D → Option Bool
  | .list ds => if inOk d ds then some (memD d ds) else none
  | .tuple ds => if inTOk d ds then some (memD d ds) else none
  | .str y => match d with
    | .str x => some (subS x y)
    | _ => none
  | _ => none
def inD (d1 d2 : D) : Option D := (inB d1 d2).map .bool
def ninD (d1 d2 : D) : Option D := (inB d1 d2).map fun k => .bool (!k)
theorem all_flatV : ∀ {ds : List D}, flatAll ds = true → (ds.map flatOf).all flatV = true
  | [], _ => rfl
  | x :: ds, h => by
    simp only [flatAll, List.all_cons, Bool.and_eq_true] at h
    rw [List.map_cons, List.all_cons, flat_flatV h.1, all_flatV h.2]
    rfl
theorem od_in {k : Nat} (hr : Room k X.A) : OpD X (compareOp .In) inD := by
  have hu : X.A.units + 65 < cLine := by have := hr.un; omega
  refine ⟨_, OpR.or op_in_seq (OpR.or (op_inD hu) op_in_str), ?_⟩
  intro W bv e σ F H fp x y d1 d2 Q S r1 r2 q
  obtain ⟨d, hd, q⟩ := q.lif
  obtain ⟨k, hk, rfl⟩ := Option.map_eq_some_iff.mp hd
  cases r2 with
  | lst h r =>
    rename_i p vs ds
    simp only [inB] at hk
    split at hk
    · rename_i z
      cases hk
      unfold inOk at z
      by_cases z1 : (flatD d1 && flatAll ds) = true
      · rw [Bool.and_eq_true] at z1
        rw [r1.flat_eq z1.1]
        have e1 := r.flat_eq z1.2
        subst e1
        refine .inl ⟨p, _, rfl, .inl (S.sub.l h), flat_flatV z1.1, all_flatV z1.2, ?_⟩
        rw [if_neg Bool.false_ne_true, flat_inV z1.1 z1.2]
        exact AtG.here (r := rD X.K) S q (.bl _)
      · rw [Bool.not_eq_true] at z1
        rw [z1, Bool.false_or, Bool.and_eq_true] at z
        have r2' : Rp X.K F (.ref p) (.list ds) := .lst h r
        exact .inr (.inl ⟨d1, ds, r1.dp S.sub (lay_of z.1), r2'.dp S.sub (lay_of z.2), z.1, z.2, AtG.here (r := rD X.K) S q (.bl _)⟩)
    · cases hk
  | tup h r =>
    rename_i p vs ds
    simp only [inB] at hk
    split at hk
    · rename_i z1
      cases hk
      unfold inTOk at z1
      rw [Bool.and_eq_true] at z1
      rw [r1.flat_eq z1.1]
      have e1 := r.flat_eq z1.2
      subst e1
      refine .inl ⟨p, _, rfl, .inr (S.sub.t h), flat_flatV z1.1, all_flatV z1.2, ?_⟩
      rw [if_neg Bool.false_ne_true, flat_inV z1.1 z1.2]
      exact AtG.here (r := rD X.K) S q (.bl _)
    · cases hk
  | str y =>
    cases r1 with
    | str x =>
      cases hk
      exact .inr (.inr ⟨x, y, rfl, rfl, AtG.here (r := rD X.K) S q (.bl _)⟩)
    | _ => cases hk
  | _ => cases hk
theorem od_nin {k : Nat} (hr : Room k X.A) : OpD X (compareOp .NotIn) ninD := by
  have hu : X.A.units + 65 < cLine := by have := hr.un; omega
  refine ⟨_, OpR.or op_notIn_seq (OpR.or (op_notInD hu) op_notin_str), ?_⟩
  intro W bv e σ F H fp x y d1 d2 Q S r1 r2 q
  obtain ⟨d, hd, q⟩ := q.lif
  obtain ⟨k, hk, rfl⟩ := Option.map_eq_some_iff.mp hd
  cases r2 with
  | lst h r =>
    rename_i p vs ds
    simp only [inB] at hk
    split at hk
    · rename_i z
      cases hk
      unfold inOk at z
      by_cases z1 : (flatD d1 && flatAll ds) = true
      · rw [Bool.and_eq_true] at z1
        rw [r1.flat_eq z1.1]
        have e1 := r.flat_eq z1.2
        subst e1
        refine .inl ⟨p, _, rfl, .inl (S.sub.l h), flat_flatV z1.1, all_flatV z1.2, ?_⟩
        rw [if_pos rfl, flat_inV z1.1 z1.2]
        exact AtG.here (r := rD X.K) S q (.bl _)
      · rw [Bool.not_eq_true] at z1
        rw [z1, Bool.false_or, Bool.and_eq_true] at z
        have r2' : Rp X.K F (.ref p) (.list ds) := .lst h r
        exact .inr (.inl ⟨d1, ds, r1.dp S.sub (lay_of z.1), r2'.dp S.sub (lay_of z.2), z.1, z.2, AtG.here (r := rD X.K) S q (.bl _)⟩)
    · cases hk
  | tup h r =>
    rename_i p vs ds
    simp only [inB] at hk
    split at hk
    · rename_i z1
      cases hk
      unfold inTOk at z1
      rw [Bool.and_eq_true] at z1
      rw [r1.flat_eq z1.1]
      have e1 := r.flat_eq z1.2
      subst e1
      refine .inl ⟨p, _, rfl, .inr (S.sub.t h), flat_flatV z1.1, all_flatV z1.2, ?_⟩
      rw [if_pos rfl, flat_inV z1.1 z1.2]
      exact AtG.here (r := rD X.K) S q (.bl _)
    · cases hk
  | str y =>
    cases r1 with
    | str x =>
      cases hk
      exact .inr (.inr ⟨x, y, rfl, rfl, AtG.here (r := rD X.K) S q (.bl _)⟩)
    | _ => cases hk
  | _ => cases hk
/-! ### + -/
def rCatL (K : PySem.W.Frag) : R2 := fun x y H Q => ∃ l b xs zs, x = .ref l ∧ y = .ref b ∧ SqL K H l xs ∧ SqL K H b zs ∧ xs.length + zs.length ≤ sizeLine ∧ ∀ p, H p = none → Q (.ref p) (upd H p (.lst (xs ++ zs)))
theorem op_catL : OpR X (binaryOp .Add) (rCatL X.K) := by
  intro pins s σ H x y v u Q I rx ry h
  obtain ⟨l, b, xs, zs, rfl, rfl, hH, hB, hz, q⟩ := h
  cases rx
  cases ry
  obtain ⟨its, r, ⟨⟨c1, dd, da, sl⟩, n, ho, hc, _, hd⟩, _⟩ := I.list hH
  obtain ⟨its2, r2, ⟨⟨c2, dd2, da2, sl2⟩, n2, ho2, hc2, _, hd2⟩, _⟩ := I.list hB
  simp only at hc hd hc2 hd2
  subst hc hd hc2 hd2
  have hl := r.length
  have hl2 := r2.length
  refine concat_meets ⟨_, ho, rfl⟩ ⟨_, ho2, rfl⟩ noFill_list_add seq_list_add PySem.F.slot_list_add PySem.F.entry_list_add (PySem.F.args_list_add_2 _ _)
    (PyProof.Rows.list_addW l b its.toArray its2.toArray n n2 dd dd2 sl sl2 (by rw [List.size_toArray, List.size_toArray]; omega)) ⟨ho, ho2, ?_⟩
  have ea : its.toArray ++ its2.toArray = (its ++ its2).toArray := by simp
  rw [ea]
  exact ⟨.ref _, _, I.lnew (t' := s.toks) (r.append r2) (by rw [List.length_append]; omega), rfl, q _ I.fresh⟩
def addD : D → D → Option D
  | .int i, .int j => some (.int (i + j))
  | .str x, .str y => if few (x.length + y.length) then some (.str (x ++ y)) else none
  | .list xs, .list ys => if few (xs.length + ys.length) then some (.list (xs ++ ys)) else none
  | .tuple xs, .tuple ys => if few (xs.length + ys.length) then some (.tuple (xs ++ ys)) else none
  | _, _ => none
theorem od_add : OpD X (binaryOp .Add) addD := by
  refine ⟨_, OpR.or op_add (OpR.or op_add_str (OpR.or op_catL op_catA)), ?_⟩
  intro W bv e σ F H fp x y d1 d2 Q S r1 r2 q
  cases r1 <;> cases r2 <;> first | exact q.elim | skip
  · exact .inl ⟨_, _, rfl, rfl, AtG.here (r := rD X.K) S q (.int _)⟩
  · simp only [addD] at q
    split at q
    · rename_i z
      exact .inr (.inl ⟨_, _, rfl, rfl, few_le z, AtG.here (r := rD X.K) S q (.str _)⟩)
    · exact q.elim
  · rename_i a1 vs1 ds1 h1 g1 a2 vs2 ds2 h2 g2
    simp only [addD] at q
    split at q
    · rename_i z
      refine .inr (.inr (.inl ⟨_, _, _, _, rfl, rfl, S.sub.l h1, S.sub.l h2, by rw [g1.length, g2.length]; exact few_le z, fun p hp => ?_⟩))
      exact AtG.made (r := rD X.K) S q hp (.lst (.inl (.inl upd_same)) (RpL.mono (Sub.new (S.sub.non hp)) (g1.append g2)))
    · exact q.elim
  · rename_i a1 vs1 ds1 h1 g1 a2 vs2 ds2 h2 g2
    simp only [addD] at q
    split at q
    · rename_i z
      refine .inr (.inr (.inr ⟨_, _, _, _, rfl, rfl, S.sub.t h1, S.sub.t h2, by rw [g1.length, g2.length]; exact few_le z, fun e1 => ?_, fun _ e2 => ?_, fun _ _ p hp => ?_⟩))
      · subst e1
        cases g1
        exact AtG.here (r := rD X.K) S q (.tup h2 (by simpa using g2))
      · subst e2
        cases g2
        exact AtG.here (r := rD X.K) S q (.tup h1 (by simpa using g1))
      · exact AtG.made (r := rD X.K) S q hp (.tup upd_same (RpL.mono (Sub.new (S.sub.non hp)) (g1.append g2)))
    · exact q.elim
/-! ### int * int -/
def mulI : D → D → Option D := intOp (fun i j => (decide (-(2 ^ 64) < i) && decide (i < 2 ^ 64)) || (decide (-(2 ^ 64) < j) && decide (j < 2 ^ 64))) (· * ·)
theorem od_mulI : OpD X (binaryOp .Mult) mulI := ⟨_, op_mul, opv_int fun i j h => by
  simp only [Bool.or_eq_true, Bool.and_eq_true, decide_eq_true_eq] at h
  exact h⟩
/-! ### -x -/
/-! ### chains -/
theorem tChain_of {K : PySem.W.Frag} {σ : L2.St} {H : Hp} {r r' : R2} {g g' : D → D → Option D} {Q : VK} (h : OpV K r g) (h' : OpV K r' g') (hg : ∀ x y d, g x y = some d → ∃ k, d = .bool k)
    (t : tE K W bv (chn g g' fa fb fc) σ H Q) : tChain r r' (tE K W bv fa) (tE K W bv fb) (tE K W bv fc) σ H Q := by
  refine tG.mono (tG.bnd (r := rD K) t) fun x H1 ⟨d1, e1, F1, fp1, S1, r1, q1⟩ => ?_
  refine tG.mono (AtG.bnd' (r := rD K) S1 q1) fun y H2 ⟨d2, e2, F2, fp2, s2, S2, r2, q2⟩ => ?_
  refine h W bv e2 σ F2 H2 fp2 x y d1 d2 _ S2 (r1.mono s2) r2 ?_
  cases z : g d1 d2 with
  | none => rw [z] at q2; exact q2.elim
  | some d =>
    obtain ⟨k, rfl⟩ := hg _ _ _ z
    rw [z] at q2
    intro v F3 H3 fp3 P3 s3 S3 r3
    obtain ⟨rfl, r3⟩ := r3
    cases r3
    refine ⟨k, rfl, ?_⟩
    cases k with
    | true =>
      have q3 : AtG K W bv (smp (rD K)) (bnd fc fun z => lif (g' d2 z)) e2 σ F2 H2 fp2 Q := q2
      rw [if_pos rfl]
      refine tG.mono (AtG.bnd' (r := rD K) S3 (AtG.back s3 q3)) fun w H4 ⟨d4, e4, F4, fp4, s4, S4, r4, q4⟩ => ?_
      exact h' W bv e4 σ F4 H4 fp4 y w d2 d4 Q S4 ((r2.mono s3.ext).mono s4) r4 q4
    | false =>
      have q3 : AtG K W bv (smp (rD K)) (ret (.bool false)) e2 σ F2 H2 fp2 Q := q2
      rw [if_neg Bool.false_ne_true]
      exact AtG.here (r := rD K) S3 (AtG.back s3 q3) (.bl _)
theorem de_chain {op op' : CmpOp} {g g' : Int → Int → Bool} (ho : OpD X (compareOp op) (intCmp g)) (ho' : OpD X (compareOp op') (intCmp g')) (ha : DE X W bv a fa) (hb : DE X W bv b fb) (hc : DE X W bv c fc)
    (hm : lastMarks [op, op'] [b, c] = false := by with_unfolding_all rfl) : DE X W bv (.Compare a [op, op'] [b, c] pos) (chn (intCmp g) (intCmp g') fa fb fc) := by
  obtain ⟨r, hr, h⟩ := ho
  obtain ⟨r', hr', h'⟩ := ho'
  refine pe_imp (pe_chain hr hr' ha hb hc hm) fun σ H Q t => tChain_of h h' (fun x y d z => ?_) t
  unfold intCmp at z
  split at z
  · cases z; exact ⟨_, rfl⟩
  · cases z
/-! ### x[i] -/
def ixD : D → D → Option D
  | .list ds, .int i => atI ds i
  | .tuple ds, .int i => atI ds i
  | .str z, .int i => if few z.length then (atI z.cps.toList i).map fun c => .str ⟨#[c]⟩ else none
  | _, _ => none
theorem RpL.atI {F : Hp} {vs : List V} {ds : List D} {i : Int} {d : D} (r : RpL K F vs ds) (h : L2.atI ds i = some d) : ∃ v, L2.atI vs i = some v ∧ Rp K F v d := by
  unfold L2.atI at h ⊢
  rw [r.length]
  cases q : ixN ds.length i with
  | none => rw [q] at h; cases h
  | some j =>
    rw [q] at h
    obtain ⟨v, h1, h2⟩ := r.get (i := j) (d := d) h
    exact ⟨v, h1, h2⟩
theorem opv_ix : OpV K (rIx K) ixD := by
  intro W bv e σ F H fp x y d1 d2 Q S r1 r2 q
  obtain ⟨d, hd, q'⟩ := q.lif
  clear q
  cases r1 <;> cases r2 <;> first | (cases hd; done) | skip
  · rename_i z i
    simp only [ixD] at hd
    split at hd
    · rename_i z1
      obtain ⟨c, hc, rfl⟩ := Option.map_eq_some_iff.mp hd
      exact .inr (.inr ⟨z, i, c, rfl, rfl, few_le z1, hc, AtG.here (r := rD K) S q' (.str _)⟩)
    · cases hd
  · rename_i a vs ds h r i
    obtain ⟨v, h1, h2⟩ := r.atI hd
    exact .inl ⟨_, _, _, _, rfl, rfl, S.sub.l h, h1, AtG.here (r := rD K) S q' h2⟩
  · rename_i a vs ds h r i
    obtain ⟨v, h1, h2⟩ := r.atI hd
    exact .inr (.inl ⟨_, _, _, _, rfl, rfl, S.sub.t h, h1, AtG.here (r := rD K) S q' h2⟩)
/-! ### x[i:j] -/
abbrev DO (X : Cx) (W : WX) (bv : Nat → Option V) (e : Option Expr) (f : EM (Option Int)) : Prop := PO X e (tG X.K W bv (smp fun _ (x : Option Int) a => x = a) f)
def intE (f : EM D) : EM (Option Int) := bnd f fun d => match d with
  | .int i => ret (some i)
  | _ => lif none
theorem po_imp {X : Cx} {e : Option Expr} {t t' : TO} (h : PO X e t) (w : ∀ σ H Q, t' σ H Q → t σ H Q) : PO X e t' := ⟨fun pins s σ H Q I q => h.run pins s σ H Q I (w σ H Q q)⟩
theorem do_none : DO X W bv none (ret none) := po_imp po_none fun σ H Q ⟨e, F, fp, S, q⟩ => AtG.here (r := fun _ x a => x = a) S q rfl
theorem do_some (ha : DE X W bv a fa) : DO X W bv (some a) (intE fa) := po_imp (po_some ha) fun σ H Q t => by
  refine tG.mono (tG.bnd (r := rD X.K) t) fun x H1 ⟨d, e1, F1, fp1, S1, r1, q1⟩ => ?_
  cases r1 with
  | int i => exact ⟨i, rfl, AtG.here (r := fun _ x a => x = a) S1 q1 rfl⟩
  | _ => exact q1.elim
def cutD {α : Type} (xs : List α) (lo hi : Option Int) : List α := (xs.drop (HT.sIx xs.length 0 lo)).take (HT.sIx xs.length xs.length hi - HT.sIx xs.length 0 lo)
theorem RpL.cut {F : Hp} {vs : List V} {ds : List D} {lo hi : Option Int} (r : RpL K F vs ds) : RpL K F (cutV vs lo hi) (cutD ds lo hi) := by
  unfold cutV cutD
  rw [r.length]
  exact (r.drop _).take _
def slD (d : D) (lo hi : Option Int) : Option D := match d with
  | .list ds => some (.list (cutD ds lo hi))
  | .tuple ds => some (.tuple (cutD ds lo hi))
  | .str z => if few z.length then some (.str (cutS z lo hi)) else none
  | _ => none
def slE (fa : EM D) (fl fh : EM (Option Int)) : EM D := bnd fa fun d => bnd fl fun lo => bnd fh fun hi => lif (slD d lo hi)
theorem cut_whole {α : Type} {xs : List α} {lo hi : Option Int} (h : HT.sIx xs.length 0 lo = 0 ∧ HT.sIx xs.length xs.length hi = xs.length) : cutD xs lo hi = xs := by
  unfold cutD
  rw [h.1, h.2]
  simp
theorem de_sl {lo hi : Option Expr} {fl fh : EM (Option Int)} {p2 : Pos} (ha : DE X W bv a fa) (hl : DO X W bv lo fl) (hh : DO X W bv hi fh) : DE X W bv (.Subscript a (.Slice lo hi none p2) pos) (slE fa fl fh) :=
  pe_imp (pe_slice (SlR.or sl_list (SlR.or sl_tupA sl_str)) ha hl hh) fun σ H Q t => by
    refine tG.mono (tG.bnd (r := rD X.K) t) fun x H1 ⟨d, e1, F1, fp1, S1, r1, q1⟩ => ?_
    refine tG.mono (AtG.bnd' (r := fun _ (x : Option Int) a => x = a) S1 q1) fun l H2 ⟨l', e2, F2, fp2, s2, S2, hl2, q2⟩ => ?_
    subst hl2
    refine tG.mono (AtG.bnd' (r := fun _ (x : Option Int) a => x = a) S2 q2) fun u H3 ⟨u', e3, F3, fp3, s3, S3, hu3, q3⟩ => ?_
    subst hu3
    have r3 := (Rp.mono s2 r1).mono s3
    obtain ⟨d', hd, q⟩ := q3.lif
    cases r3 with
    | lst h r =>
      cases hd
      refine .inl ⟨_, _, rfl, S3.sub.l h, fun p hp => ?_⟩
      exact AtG.made (r := rD X.K) S3 q hp (.lst (.inl (.inl upd_same)) (RpL.mono (Sub.new (S3.sub.non hp)) r.cut))
    | tup h r =>
      cases hd
      refine .inr (.inl ⟨_, _, rfl, S3.sub.t h, fun hw => ?_, fun _ p hp => ?_⟩)
      · rw [r.length] at hw
        rw [cut_whole hw] at q
        exact AtG.here (r := rD X.K) S3 q (.tup h r)
      · exact AtG.made (r := rD X.K) S3 q hp (.tup upd_same (RpL.mono (Sub.new (S3.sub.non hp)) r.cut))
    | str z =>
      simp only [slD] at hd
      split at hd
      · rename_i z1
        cases hd
        exact .inr (.inr ⟨z, rfl, few_le z1, AtG.here (r := rD X.K) S3 q (.str _)⟩)
      · cases hd
    | _ => cases hd
end
end FD
/-! FD: statements, loops. -/
namespace FD
variable [TabT]
open PySem L2
section
variable {K : PySem.W.Frag} {W : WX} {bv : Nat → Option V} {e : Env} {σ : L2.St} {F H : Hp} {fp : Nat → List Addr} {τ α : Type}
theorem AtS.back {g : EM Flow} {F0 H0 : Hp} {fp0 : Nat → List Addr} {D : Ends} (s : Stp F0 H0 (Pf fp0) F H (Pf fp)) (h : AtS K W bv g e σ F0 H0 fp0 D) : AtS K W bv g e σ F H fp D := by
  unfold AtS at h ⊢
  cases q : g e with
  | no => rw [q] at h; exact h
  | ex C fs e' => rw [q] at h; exact fun σ' F' H' fp' dx s' => h σ' F' H' fp' dx (s.trans s')
  | ok a e' =>
    rw [q] at h
    cases a with
    | nxt => exact fun σ' F' H' fp' s' => h σ' F' H' fp' (s.trans s')
    | brk => exact fun σ' F' H' fp' s' => h σ' F' H' fp' (s.trans s')
    | cnt => exact fun σ' F' H' fp' s' => h σ' F' H' fp' (s.trans s')
    | ret m => exact fun v σ' F' H' fp' P' s' => h v σ' F' H' fp' P' (s.trans s')
/-- AtS does not hang on the slots where it stands -/
theorem AtS.slots {g : EM Flow} {σ' : L2.St} {D : Ends} (h : AtS K W bv g e σ F H fp D) : AtS K W bv g e σ' F H fp D := h
theorem AtS.bnd' {r : Hp → τ → α → Prop} {f : EM α} {k : α → EM Flow} {D : Ends} (S : SS K bv e σ F H fp) (h : AtS K W bv (bnd f k) e σ F H fp D) :
    tG K W bv (smp r) f σ H fun x H1 => ∃ a e1 F1 fp1, Sub F F1 ∧ Stp F H (Pf fp) F1 H1 (Pf fp1) ∧ SS K bv e1 σ F1 H1 fp1 ∧ r F1 x a ∧ AtS K W bv (k a) e1 σ F1 H1 fp1 D := by
  refine ⟨e, F, fp, S, ?_⟩
  unfold AtS FD.bnd at h
  unfold AtG
  cases q : f e with
  | no => rw [q] at h; exact h
  | ex C fs e' => rw [q] at h; exact fun F' H' fp' dx s S' x => h σ F' H' fp' dx s S' x
  | ok a e' =>
    rw [q] at h
    intro x F' H' fp' P' s' S' r'
    obtain ⟨rfl, r'⟩ := r'
    exact ⟨a, e', F', fp', s'.ext, s', S', r', AtS.back s' h⟩
theorem AtS.bndM {f : EM M} {k : M → EM Flow} {D : Ends} (S : SS K bv e σ F H fp) (h : AtS K W bv (bnd f k) e σ F H fp D) :
    tM K W bv f σ H fun x H1 => ∃ m e1 F1 fp1 P1, f e = .ok m e1 ∧ Stp F H (Pf fp) F1 H1 P1 ∧ SS K bv e1 σ F1 H1 fp1 ∧ rM K F1 H1 fp1 P1 x m ∧ AtS K W bv (k m) e1 σ F H fp D := by
  refine ⟨e, F, fp, S, ?_⟩
  unfold AtS FD.bnd at h
  unfold AtG
  cases q : f e with
  | no => rw [q] at h; exact h
  | ex C fs e' => rw [q] at h; exact fun F' H' fp' dx s S' x => h σ F' H' fp' dx s S' x
  | ok a e' =>
    rw [q] at h
    intro x F' H' fp' P' s' S' r'
    exact ⟨a, e', F', fp', P', rfl, s', S', r', h⟩
/-- a slot is given another thing -/
theorem SS.store {i : Nat} {v : V} {m : M} {fpr : List Addr} {P : Addr → Prop} (S : SS K bv e σ F H fp) (hi : i < e.length) (hb : bv i = none) (o : Own K F H v m fpr) (nd : fpr.Nodup) (dj : ∀ a ∈ fpr, ¬ Pf fp a) (fr : ∀ a ∈ fpr, F a = none) :
    SS K bv (e.set i (some m)) (σ.set i (some v)) F H (FD.put fp i fpr) :=
  S.put (Sub.refl F) S.sub hi (List.getElem?_set_self (by rw [← S.len]; exact hi)) (fun j n => List.getElem?_set_ne (Ne.symm n)) (List.length_set ..) (fun u h => by rw [hb] at h; cases h) o nd fr (fun j _ a h q => dj a q ⟨j, h⟩) (fun _ _ _ _ _ h => h) fun j _ a h => S.fr j a h
theorem stp_store {F0 H0 : Hp} {fp0 : Nat → List Addr} {i : Nat} {fpr : List Addr} {P : Addr → Prop} (s : Stp F0 H0 (Pf fp0) F H P) (hP : P = fun a => Pf fp a ∨ a ∈ fpr) : Stp F0 H0 (Pf fp0) F H (Pf (FD.put fp i fpr)) where
  ext := s.ext
  keep := s.keep
  live := s.live
  tbl := s.tbl
  newF := s.newF
  newP := fun a h => by
    obtain ⟨j, h⟩ := h
    refine s.newP a ?_
    rw [hP]
    by_cases n : j = i
    · rw [n, put_same] at h
      exact .inr h
    · rw [put_ne n] at h
      exact .inl ⟨j, h⟩
end
section
variable {X : Cx} {W : WX} {bv : Nat → Option V} {pos : Pos} {a b : Expr} {st : Stmt} {sts : List Stmt} {fa fb : EM D} {ta : EM Bool} {g g1 g2 : EM Flow}
def seqS (g1 g2 : EM Flow) : EM Flow := fun e => match g1 e with
  | .ok .nxt e' => g2 e'
  | o => o
theorem dss_nil : DSs X W bv [] (ret .nxt) := pss_imp pss_nil fun D σ H ⟨e, F, fp, S, q⟩ => q σ F H fp (Stp.refl _ _ _) S
theorem seqS_of {K : PySem.W.Frag} {D : Ends} {σ : L2.St} {H : Hp} (t : tS K W bv (seqS g1 g2) D σ H) : tS K W bv g1 { D with nx := tS K W bv g2 D } σ H := by
  obtain ⟨e, F, fp, S, h⟩ := t
  refine ⟨e, F, fp, S, ?_⟩
  unfold AtS seqS at h
  show OutS _ _ _ (g1 e) _ _ _ _
  cases q : g1 e with
  | no => rw [q] at h; exact h
  | ex C fs e' => rw [q] at h; exact h
  | ok fl e' =>
    rw [q] at h
    cases fl with
    | nxt => exact fun σ' F' H' fp' s' S' => ⟨e', F', fp', S', AtS.back s' (AtS.slots (σ := σ) h)⟩
    | brk => exact h
    | cnt => exact h
    | ret m => exact h
theorem dss_cons (h1 : DS X W bv st g1) (h2 : DSs X W bv sts g2) : DSs X W bv (st :: sts) (seqS g1 g2) := pss_imp (pss_cons h1 h2) fun D σ H t => seqS_of t
theorem dss_one (h1 : DS X W bv st g1) : DSs X W bv [st] g1 := pss_one h1
/-- what is never reached -/
theorem ds_never : DS X W bv st (fun _ => .no) := ps_imp ps_never fun D σ H ⟨e, F, fp, S, q⟩ => q.elim
def exprS (f : EM D) : EM Flow := bnd f fun _ => ret .nxt
theorem ds_expr (h : DE X W bv a fa) (hs : swapsWith a none pos.line X.env = pure false := by rfl) : DS X W bv (.Expr a pos) (exprS fa) :=
  ps_imp (ps_expr h hs) fun D σ H ⟨e, F, fp, S, q⟩ =>
    tG.mono (AtS.bnd' (r := rD X.K) S q) fun x H1 ⟨d, e1, F1, fp1, _, _, S1, _, q1⟩ => q1 σ F1 H1 fp1 (Stp.refl _ _ _) S1
def retS (f : EM D) : EM Flow := bnd f fun d => ret (.ret (.im d))
def retM (f : EM M) : EM Flow := bnd f fun m => ret (.ret m)
theorem ds_ret (h : DE X W bv a fa) : DS X W bv (.Return (some a) pos) (retS fa) :=
  ps_imp (ps_ret h) fun D σ H ⟨e, F, fp, S, q⟩ =>
    tG.mono (AtS.bnd' (r := rD X.K) S q) fun x H1 ⟨d, e1, F1, fp1, _, _, S1, r1, q1⟩ => q1 x σ F1 H1 fp1 (Pf fp1) (Stp.refl _ _ _) S1 ⟨[], by simp, .im r1, List.nodup_nil, by simp, by simp⟩
theorem ds_retM {f : EM M} (h : DM X W bv a f) : DS X W bv (.Return (some a) pos) (retM f) :=
  ps_imp (ps_ret h) fun D σ H ⟨e, F, fp, S, q⟩ =>
    tG.mono (AtS.bndM S q) fun x H1 ⟨m, e1, F1, fp1, P1, _, s1, S1, r1, q1⟩ => q1 x σ F1 H1 fp1 P1 s1 S1 r1
def ifS (c : EM Bool) (g1 g2 : EM Flow) : EM Flow := bnd c fun k => if k then g1 else g2
theorem ds_if {c : Expr} {s1 s2 : List Stmt} (hc : DT X W bv c ta) (h1 : DSs X W bv s1 g1) (h2 : DSs X W bv s2 g2) : DS X W bv (.If c s1 s2 pos) (ifS ta g1 g2) :=
  ps_imp (ps_if hc h1 h2) fun D σ H ⟨e, F, fp, S, q⟩ =>
    tG.mono (AtS.bnd' (r := rB) S q) fun x H1 ⟨k, e1, F1, fp1, _, _, S1, r1, q1⟩ => by
      cases (show x = k from r1)
      cases x with
      | true => exact ⟨e1, F1, fp1, S1, q1⟩
      | false => exact ⟨e1, F1, fp1, S1, q1⟩
/-! ### stores to names -/
def stoM (i : Nat) (m : M) : EM Flow := fun e => if i < e.length then .ok .nxt (e.set i (some m)) else .no
def setS (i : Nat) (f : EM D) : EM Flow := bnd f fun d => stoM i (.im d)
def setM (i : Nat) (f : EM M) : EM Flow := bnd f fun m => stoM i m
theorem stoM_at {K : PySem.W.Frag} {D : Ends} {σ : L2.St} {F0 H0 F H : Hp} {fp0 fp : Nat → List Addr} {e : Env} {i : Nat} {v : V} {m : M} {P : Addr → Prop} (hb : bv i = none) (s : Stp F0 H0 (Pf fp0) F H P) (S : SS K bv e σ F H fp) (r : rM K F H fp P v m) (q : AtS K W bv (stoM i m) e σ F0 H0 fp0 D) :
    D.nx (σ.set i (some v)) H := by
  obtain ⟨fpr, hP, o, nd, dj, fr⟩ := r
  unfold AtS stoM at q
  by_cases hi : i < e.length
  · rw [if_pos hi] at q
    exact q _ F H (put fp i fpr) (stp_store s hP) (S.store (P := P) hi hb o nd dj fr)
  · rw [if_neg hi] at q
    exact q.elim
theorem rM_im {K : PySem.W.Frag} {F H : Hp} {fp : Nat → List Addr} {v : V} {d : D} (r : Rp K F v d) : rM K F H fp (Pf fp) v (.im d) := ⟨[], by simp, .im r, List.nodup_nil, by simp, by simp⟩
theorem ds_set (i : Nat) {x : Str} {pos' : Pos} (hN : X.N.Nodup) (h : DE X W bv a fa) (hi : X.N[i]? = some x := by rfl) (hx : Loc X.env.scope x := by first | exact Or.inl rfl | exact Or.inr rfl) (hb : bv i = none := by rfl)
    (hs : swapsWith a (some (.Name x pos')) pos.line X.env = pure false := by rfl) (hf : X.fn x = true ∨ X.env.scope.names.lookup x = some .local := by first | exact .inl rfl | exact .inr rfl) : DS X W bv (.Assign [.Name x pos'] a pos) (setS i fa) :=
  ps_imp (ps_set hN hi hx h hs hf) fun D σ H ⟨e, F, fp, S, q⟩ =>
    tG.mono (AtS.bnd' (r := rD X.K) S q) fun v H1 ⟨d, e1, F1, fp1, _, _, S1, r1, q1⟩ => stoM_at hb (Stp.refl _ _ _) S1 (rM_im r1) q1
theorem ds_setM (i : Nat) {x : Str} {pos' : Pos} {f : EM M} (hN : X.N.Nodup) (h : DM X W bv a f) (hi : X.N[i]? = some x := by rfl) (hx : Loc X.env.scope x := by first | exact Or.inl rfl | exact Or.inr rfl) (hb : bv i = none := by rfl)
    (hs : swapsWith a (some (.Name x pos')) pos.line X.env = pure false := by rfl) (hf : X.fn x = true ∨ X.env.scope.names.lookup x = some .local := by first | exact .inl rfl | exact .inr rfl) : DS X W bv (.Assign [.Name x pos'] a pos) (setM i f) :=
  ps_imp (ps_set hN hi hx h hs hf) fun D σ H ⟨e, F, fp, S, q⟩ =>
    tG.mono (AtS.bndM S q) fun v H1 ⟨d, e1, F1, fp1, P1, _, s1, S1, r1, q1⟩ => stoM_at hb s1 S1 r1 q1
/-! ### targets -/
/-! what a target makes of data -/
/-- the slots but those at l are as they were -/
def Off (l : List Nat) (σ σ' : L2.St) : Prop := σ'.length = σ.length ∧ ∀ j, j ∉ l → σ'[j]? = σ[j]?
theorem Off.refl (σ : L2.St) : Off [] σ σ := ⟨rfl, fun _ _ => rfl⟩
theorem Off.set (i : Nat) (σ : L2.St) (x : Option V) : Off [i] σ (σ.set i x) := ⟨List.length_set .., fun j h => List.getElem?_set_ne fun e => h (by rw [e]; exact List.mem_singleton.mpr rfl)⟩
theorem Off.trans {l l' : List Nat} {σ σ1 σ2 : L2.St} (a : Off l σ σ1) (b : Off l' σ1 σ2) : Off (l ++ l') σ σ2 := ⟨b.1.trans a.1, fun j h => by
  rw [List.mem_append, not_or] at h
  rw [b.2 j h.2, a.2 j h.1]⟩
def tTg (K : PySem.W.Frag) (bv : Nat → Option V) (l : List Nat) (tg : D → EM Unit) : TG := fun v σ H Q => ∃ e F fp d, SS K bv e σ F H fp ∧ Rp K F v d ∧ match tg d e with
  | .ok _ e' => ∀ σ' F' H' fp', Off l σ σ' → Stp F H (Pf fp) F' H' (Pf fp') → SS K bv e' σ' F' H' fp' → Q σ' H'
  | _ => False
def tTgs (K : PySem.W.Frag) (bv : Nat → Option V) (l : List Nat) (tg : List D → EM Unit) : TGs := fun v σ H Q => ∃ e F fp d, SS K bv e σ F H fp ∧ RpL K F v d ∧ match tg d e with
  | .ok _ e' => ∀ σ' F' H' fp', Off l σ σ' → Stp F H (Pf fp) F' H' (Pf fp') → SS K bv e' σ' F' H' fp' → Q σ' H'
  | _ => False
abbrev DG (X : Cx) (bv : Nat → Option V) (tg : Expr) (l : List Nat) (f : D → EM Unit) : Prop := PG X tg (tTg X.K bv l f)
abbrev DGs (X : Cx) (bv : Nat → Option V) (tg : List Expr) (l : List Nat) (f : List D → EM Unit) : Prop := PGs X tg (tTgs X.K bv l f)
theorem pg_imp {X : Cx} {e : Expr} {t t' : TG} (h : PG X e t) (w : ∀ v σ H Q, t' v σ H Q → t v σ H Q) : PG X e t' := ⟨fun pins s σ H v u Q I r q => h.run pins s σ H v u Q I r (w v σ H Q q)⟩
theorem pgs_imp {X : Cx} {e : List Expr} {t t' : TGs} (h : PGs X e t) (w : ∀ v σ H Q, t' v σ H Q → t v σ H Q) : PGs X e t' := ⟨fun pins s σ H v u Q I r q => h.run pins s σ H v u Q I r (w v σ H Q q)⟩
def gN (i : Nat) : D → EM Unit := fun d e => if i < e.length then .ok () (e.set i (some (.im d))) else .no
theorem dg_name (i : Nat) {x : Str} (hN : X.N.Nodup) (hi : X.N[i]? = some x := by rfl) (hx : Loc X.env.scope x := by first | exact Or.inl rfl | exact Or.inr rfl) (hb : bv i = none := by rfl) (hf : X.fn x = true ∨ X.env.scope.names.lookup x = some .local := by first | exact .inl rfl | exact .inr rfl) : DG X bv (.Name x pos) [i] (gN i) :=
  pg_imp (pg_name hN hi hx hf) fun v σ H Q ⟨e, F, fp, d, S, r, q⟩ => by
    unfold gN at q
    by_cases hi : i < e.length
    · rw [if_pos hi] at q
      obtain ⟨fpr, hP, o, nd, dj, fr⟩ := rM_im (H := H) (fp := fp) r
      exact q _ F H (put fp i fpr) (Off.set i σ _) (stp_store (Stp.refl _ _ _) hP) (S.store (P := Pf fp) hi hb o nd dj fr)
    · rw [if_neg hi] at q
      exact q.elim
def gsNil : List D → EM Unit := fun ds e => match ds with
  | [] => .ok () e
  | _ => .no
def gsCons (t : D → EM Unit) (u : List D → EM Unit) : List D → EM Unit := fun ds e => match ds with
  | d :: r => bnd (t d) (fun _ => u r) e
  | [] => .no
theorem dgs_nil : DGs X bv [] [] gsNil := pgs_imp pgs_nil fun v σ H Q ⟨e, F, fp, d, S, r, q⟩ => by
  cases r with
  | nil => exact ⟨rfl, q σ F H fp (Off.refl σ) (Stp.refl _ _ _) S⟩
  | cons _ _ => exact q.elim
theorem dgs_cons {es : List Expr} {l l' : List Nat} {t : D → EM Unit} {u : List D → EM Unit} (h1 : DG X bv a l t) (h2 : DGs X bv es l' u) (hs : (assignEach (a :: es) X.env).map (·.2) = assign a X.env :: (assignEach es X.env).map (·.2) := by rfl) : DGs X bv (a :: es) (l ++ l') (gsCons t u) :=
  pgs_imp (pgs_cons h1 h2 hs) fun vs σ H Q t0 => by
    obtain ⟨e, F, fp, ds, S, r, q⟩ := t0
    cases r with
    | nil => exact q.elim
    | cons r1 r2 =>
      rename_i v vs' d ds'
      refine ⟨v, vs', rfl, e, F, fp, d, S, r1, ?_⟩
      simp only [gsCons, bnd] at q
      cases z : t d e with
      | no => rw [z] at q; exact q.elim
      | ex _ _ _ => rw [z] at q; exact q.elim
      | ok _ e1 =>
        rw [z] at q
        dsimp only at q
        intro σ1 F1 H1 fp1 o1 s1 S1
        refine ⟨e1, F1, fp1, ds', S1, r2.mono s1.ext, ?_⟩
        cases z2 : u ds' e1 with
        | no => rw [z2] at q; exact q.elim
        | ex _ _ _ => rw [z2] at q; exact q.elim
        | ok _ e2 => rw [z2] at q; exact fun σ' F' H' fp' o' s' S' => q σ' F' H' fp' (o1.trans o') (s1.trans s') S'
def gT (n : Nat) (u : List D → EM Unit) : D → EM Unit := fun d e => match d with
  | .tuple ds => if ds.length = n then u ds e else .no
  | _ => .no
theorem dg_tup {es : List Expr} {k n : Nat} {l : List Nat} {u : List D → EM Unit} (h : DGs X bv es l u) (hc : X.calm = true := by rfl) (hn : (assignEach es X.env).length = n := by rfl) (hst : (assignEach es X.env).findIdx? (·.1) = none := by rfl) : DG X bv (.Tuple es k pos) l (gT n u) :=
  pg_imp (pg_tup hc h hn hst) fun v σ H Q t0 => by
    obtain ⟨e, F, fp, d, S, r, q⟩ := t0
    cases r with
    | tup hq rl =>
      rename_i a0 vs0 ds0
      simp only [gT] at q
      by_cases hl : ds0.length = n
      · simp only [if_pos hl] at q
        exact ⟨_, _, rfl, S.sub.t hq, by rw [rl.length]; exact hl, e, F, fp, _, S, rl, q⟩
      · simp only [if_neg hl] at q
    | _ => exact q.elim
end
end FD
/-! FD: more stores, while, for. -/
namespace FD
variable [TabT]
open PySem L2
section
variable {X : Cx} {W : WX} {bv : Nat → Option V} {pos : Pos} {a b : Expr} {st : Stmt} {sts : List Stmt} {fa fb : EM D} {fs : EM (List D)} {ta : EM Bool} {g g1 g2 : EM Flow}
def goS (u : EM Unit) : EM Flow := bnd u fun _ => ret .nxt
theorem goS_at {K : PySem.W.Frag} {D : Ends} {σ : L2.St} {F H : Hp} {fp : Nat → List Addr} {e : Env} {u : EM Unit} (q : AtS K W bv (goS u) e σ F H fp D) (hu : ∀ C fs e', u e ≠ .ex C fs e') : match u e with
    | .ok _ e' => ∀ σ' F' H' fp', Stp F H (Pf fp) F' H' (Pf fp') → SS K bv e' σ' F' H' fp' → D.nx σ' H'
    | _ => False := by
  unfold AtS goS bnd at q
  cases z : u e with
  | no => rw [z] at q; exact q
  | ex C fs e' => exact absurd z (hu C fs e')
  | ok _ e' => rw [z] at q; exact q
/-- a target never raises -/
def NoEx (t : D → EM Unit) : Prop := ∀ d e C fs e', t d e ≠ .ex C fs e'
def NoExs (t : List D → EM Unit) : Prop := ∀ d e C fs e', t d e ≠ .ex C fs e'
theorem nx_name (i : Nat) : NoEx (gN i) := fun d e C fs e' h => by
  unfold gN at h
  split at h <;> cases h
theorem nx_nil : NoExs gsNil := fun d e C fs e' h => by
  cases d <;> cases h
theorem nx_cons {t : D → EM Unit} {u : List D → EM Unit} (h1 : NoEx t) (h2 : NoExs u) : NoExs (gsCons t u) := fun d e C fs e' h => by
  cases d with
  | nil => cases h
  | cons d r =>
    simp only [gsCons, bnd] at h
    cases z : t d e with
    | no => rw [z] at h; cases h
    | ex _ _ _ => exact h1 _ _ _ _ _ z
    | ok _ e1 => rw [z] at h; exact h2 _ _ _ _ _ h
theorem nx_tup {n : Nat} {u : List D → EM Unit} (h : NoExs u) : NoEx (gT n u) := fun d e C fs e' q => by
  unfold gT at q
  split at q
  · split at q
    · exact h _ _ _ _ _ q
    · cases q
  · cases q
def asgS (f : EM D) (t : D → EM Unit) : EM Flow := bnd f fun d => goS (t d)
theorem ds_asg {tg : Expr} {l : List Nat} {t : D → EM Unit} (h : DE X W bv a fa) (hg : DG X bv tg l t) (hn : NoEx t) (hs : swapsWithSole [tg] a pos.line X.env = pure false := by rfl) (hw : swappedStores [tg] a X.env = pure none := by rfl)
    (h1 : (assignEach [tg] X.env).map (·.2) = [assign tg X.env] := by rfl) : DS X W bv (.Assign [tg] a pos) (asgS fa t) :=
  ps_imp (ps_asg h hg hs hw h1) fun D σ H ⟨e, F, fp, S, q⟩ =>
    tG.mono (AtS.bnd' (r := rD X.K) S q) fun v H1 ⟨d, e1, F1, fp1, _, _, S1, r1, q1⟩ => ⟨e1, F1, fp1, d, S1, r1, by
      have z := goS_at q1 (hn d e1)
      cases w : t d e1 with
      | no => rw [w] at z; exact z
      | ex _ _ _ => rw [w] at z; exact z
      | ok _ e' => rw [w] at z; exact fun σ' F' H' fp' _ s' S' => z σ' F' H' fp' s' S'⟩
/-- a, b = x, y with two plain names -/
def parS (fs : EM (List D)) (u : List D → EM Unit) : EM Flow := bnd fs fun ds => goS (u ds)
theorem gN_at {K : PySem.W.Frag} {σ : L2.St} {F H : Hp} {fp : Nat → List Addr} {e e' : Env} {i : Nat} {v : V} {d : D} (hb : bv i = none) (S : SS K bv e σ F H fp) (r : Rp K F v d) (q : gN i d e = .ok () e') :
    ∃ fp', Stp F H (Pf fp) F H (Pf fp') ∧ SS K bv e' (σ.set i (some v)) F H fp' := by
  unfold gN at q
  by_cases hi : i < e.length
  · rw [if_pos hi] at q
    cases q
    obtain ⟨fpr, hP, o, nd, dj, fr⟩ := rM_im (H := H) (fp := fp) r
    exact ⟨_, stp_store (Stp.refl _ _ _) hP, S.store (P := Pf fp) hi hb o nd dj fr⟩
  · rw [if_neg hi] at q
    cases q
theorem bnd_ok {α β : Type} {f : EM α} {k : α → EM β} {e e' : Env} {y : β} (h : bnd f k e = .ok y e') : ∃ x e1, f e = .ok x e1 ∧ k x e1 = .ok y e' := by
  unfold bnd at h
  cases z : f e with
  | no => rw [z] at h; cases h
  | ex _ _ _ => rw [z] at h; cases h
  | ok x e1 => rw [z] at h; exact ⟨x, e1, rfl, h⟩
theorem par2_at {K : PySem.W.Frag} {En : Ends} {σ : L2.St} {F H : Hp} {fp : Nat → List Addr} {e : Env} {i j : Nat} {vs : List V} {ds : List D} (hi : bv i = none) (hj : bv j = none) (S : SS K bv e σ F H fp) (r : RpL K F vs ds)
    (q : AtS K W bv (goS (gsCons (gN i) (gsCons (gN j) gsNil) ds)) e σ F H fp En) : ∃ v w, vs = [v, w] ∧ En.nx ((σ.set i (some v)).set j (some w)) H := by
  have q := goS_at q (nx_cons (nx_name i) (nx_cons (nx_name j) nx_nil) ds e)
  cases z : gsCons (gN i) (gsCons (gN j) gsNil) ds e with
  | no => rw [z] at q; exact q.elim
  | ex _ _ _ => rw [z] at q; exact q.elim
  | ok _ e' =>
    rw [z] at q
    cases r with
    | nil => cases z
    | cons r1 r =>
      cases r with
      | nil => obtain ⟨_, _, _, z2⟩ := bnd_ok z; cases z2
      | cons r2 r =>
        cases r with
        | cons _ _ =>
          obtain ⟨_, _, _, z2⟩ := bnd_ok z
          obtain ⟨_, _, _, z3⟩ := bnd_ok z2
          cases z3
        | nil =>
          obtain ⟨_, e1, z1, z2⟩ := bnd_ok z
          obtain ⟨_, e2, z2, z3⟩ := bnd_ok z2
          cases z3
          obtain ⟨fp1, s1, S1⟩ := gN_at hi S r1 z1
          obtain ⟨fp2, s2, S2⟩ := gN_at hj S1 r2 z2
          exact ⟨_, _, rfl, q _ _ _ fp2 (s1.trans s2) S2⟩
theorem ds_par2 (i j : Nat) {x y : Str} {px py pt : Pos} {kt k2 pt2} (hN : X.N.Nodup) (ha : DA X W bv [a, b] fs) (hc : X.calm = true := by rfl) (hi : X.N[i]? = some x := by rfl) (hj : X.N[j]? = some y := by rfl) (hij : i ≠ j := by decide)
    (hx : X.env.scope.names.lookup x = some .local := by rfl) (hy : X.env.scope.names.lookup y = some .local := by rfl) (hbi : bv i = none := by rfl) (hbj : bv j = none := by rfl)
    (hw : swappedStores [.Tuple [.Name x px, .Name y py] kt pt] (.Tuple [a, b] k2 pt2) X.env = pure (some [x, y]) := by rfl)
    (hs : swapsWithSole [.Tuple [.Name x px, .Name y py] kt pt] (.Tuple [a, b] k2 pt2) pos.line X.env = pure false := by rfl) :
    DS X W bv (.Assign [.Tuple [.Name x px, .Name y py] kt pt] (.Tuple [a, b] k2 pt2) pos) (parS fs (gsCons (gN i) (gsCons (gN j) gsNil))) :=
  ps_imp (ps_par hc hN hi hj hij hx hy ha hw hs) fun D σ H ⟨e, F, fp, S, q⟩ =>
    tG.mono (AtS.bnd' (r := rL X.K) S q) fun vs H1 ⟨ds, e1, F1, fp1, _, _, S1, r1, q1⟩ => par2_at hbi hbj S1 r1 q1
/-- x op= e of numbers -/
def augS (i : Nat) (g : D → D → Option D) (f : EM D) : EM Flow := bnd (var i) fun x => bnd f fun y => bnd (lif (g x y)) fun z => stoM i (.im z)
/-! ### while -/
def whileS : Nat → EM Bool → EM Flow → EM Flow
  | 0, _, _ => fun _ => .no
  | n + 1, c, g => bnd c fun k => if k then (fun e => match g e with
      | .ok .nxt e' => whileS n c g e'
      | .ok .cnt e' => whileS n c g e'
      | .ok .brk e' => .ok .nxt e'
      | .ok (.ret m) e' => .ok (.ret m) e'
      | .ex C fs e' => .ex C fs e'
      | .no => .no) else ret .nxt
theorem ds_while (n : Nat) {c : Expr} {body : List Stmt} (hc : DT X W bv c ta) (hb : DSs X W bv body g) (hp : PassesOwn (model X.prog X.w) X.A X.env X.xe) : DS X W bv (.While c body [] pos) (whileS n ta g) :=
  ps_imp (ps_while hp hc hb) fun D σ H ⟨e, F, fp, S, q⟩ => by
    refine ⟨fun m σ' H' => ∃ e' F' fp', SS X.K bv e' σ' F' H' fp' ∧ AtS X.K W bv (whileS m ta g) e' σ' F' H' fp' D, ⟨n, e, F, fp, S, q⟩, fun m σ' H' ⟨e', F', fp', S', q'⟩ => ?_⟩
    cases m with
    | zero => exact q'.elim
    | succ m =>
      refine tG.mono (AtS.bnd' (r := rB) S' q') fun x H1 ⟨k, e1, F1, fp1, _, _, S1, r1, q1⟩ => ?_
      cases (show x = k from r1)
      cases x with
      | false =>
        rw [if_neg Bool.false_ne_true]
        exact q1 σ' F1 H1 fp1 (Stp.refl _ _ _) S1
      | true =>
        rw [if_pos rfl]
        refine ⟨_, fun σ2 H2 h2 => ⟨m, Nat.lt_succ_self m, h2⟩, e1, F1, fp1, S1, ?_⟩
        rw [if_pos rfl] at q1
        show OutS _ _ _ (g e1) _ _ _ _
        unfold AtS at q1
        dsimp only at q1
        cases z : g e1 with
        | no => rw [z] at q1; exact q1
        | ex C fs e2 => rw [z] at q1; exact q1
        | ok fl e2 =>
          rw [z] at q1
          cases fl with
          | nxt => exact fun σ2 F2 H2 fp2 s2 S2 => ⟨e2, F2, fp2, S2, AtS.back s2 (AtS.slots (σ := σ') q1)⟩
          | cnt => exact fun σ2 F2 H2 fp2 s2 S2 => ⟨e2, F2, fp2, S2, AtS.back s2 (AtS.slots (σ := σ') q1)⟩
          | brk => exact q1
          | ret _ => exact q1
/-! ### what is walked -/
def Grow (F H F' H' : Hp) : Prop := (F' = F ∧ H' = H) ∨ (∃ p o, H p = none ∧ F' = upd F p o ∧ H' = upd H p o) ∨ ∃ p vs, H p = some (.tup vs) ∧ ((F' = upd F p (.tup vs) ∧ H' = H) ∨ ∃ q o, H q = none ∧ F' = upd (upd F p (.tup vs)) q o ∧ H' = upd H q o)
/-- while F stands, J gives the data ds, one by one -/
def WalksD (K : PySem.W.Frag) (J : It) (F : Hp) (ds : List D) : Prop := ∀ F' H i, Sub F F' → Sub F' H →
  (∀ d, ds[i]? = some d → J.go i H ∧ ∀ x H', J.yld i H x H' → ∃ F'', Grow F' H F'' H' ∧ Rp K F'' x d) ∧ (ds.length ≤ i → i ≤ ds.length → J.stop i H)
def tI (K : PySem.W.Frag) (W : WX) (bv : Nat → Option V) (f : EM (List D)) : TI := fun σ H R => ∃ e F fp, SS K bv e σ F H fp ∧ match f e with
  | .ok ds e' => ∀ J F' H' fp', Stp F H (Pf fp) F' H' (Pf fp') → SS K bv e' σ F' H' fp' → WalksD K J F' ds → R J H'
  | .ex C fs e' => ∀ F' H' fp' dx, Stp F H (Pf fp) F' H' (Pf fp') → SS K bv e' σ F' H' fp' → XRep K F' fs dx → W (clsV K C) dx σ H'
  | .no => False
abbrev DI (X : Cx) (W : WX) (bv : Nat → Option V) (tg iter : Expr) (f : EM (List D)) : Prop := PI X tg iter (tI X.K W bv f)
theorem pi_imp {X : Cx} {tg e : Expr} {t t' : TI} (h : PI X tg e t) (w : ∀ σ H Q, t' σ H Q → t σ H Q) : PI X tg e t' := ⟨fun pins s σ H Q I q => h.run pins s σ H Q I (w σ H Q q)⟩
theorem Sub.seen {F H : Hp} {p : Addr} {vs : List V} (s : Sub F H) (hp : H p = some (.tup vs)) : Sub F (upd F p (.tup vs)) ∧ Sub (upd F p (.tup vs)) H := by
  have rp : ∀ u, Nt u → Rd F p u → u = .tup vs := fun u t r => by
    rcases s.rdN p u t r with z | ⟨o, z⟩
    · rw [hp] at z; cases z; rfl
    · rw [hp] at z; cases z
  refine ⟨⟨fun a u t r => ?_, fun a u x q => ?_, fun a q => ?_⟩, ⟨fun a u t r => ?_, fun a u x q => ?_, fun a q => ?_⟩⟩
  · by_cases e : a = p
    · subst e
      rw [rp u t r]
      exact .inl upd_same
    · exact rd_at (upd_ne e) r
  · by_cases e : a = p
    · subst e
      have := s.ex _ _ x q
      rw [hp] at this
      cases this
      exact upd_same
    · rw [upd_ne e]; exact q
  · by_cases e : a = p
    · subst e; rw [upd_same] at q; cases q
    · rw [upd_ne e] at q; exact q
  · by_cases e : a = p
    · subst e
      exact rd_at (by rw [hp, upd_same]) r
    · exact s.rdN a u t (rd_at (upd_ne e).symm r)
  · by_cases e : a = p
    · subst e
      rw [upd_same] at q
      rw [hp]; exact q
    · rw [upd_ne e] at q; exact s.ex a u x q
  · by_cases e : a = p
    · subst e; rw [hp] at q; cases q
    · rw [upd_ne e]; exact s.nn a q
theorem Grow.stp {F H F' H' : Hp} {P : Addr → Prop} (s : Sub F H) (g : Grow F H F' H') : Stp F H P F' H' P := by
  have third : ∀ {p vs}, H p = some (.tup vs) → Stp F H P (upd F p (.tup vs)) H P := fun {p vs} hp => by
    refine ⟨(s.seen hp).1, fun _ _ h _ _ _ => h, fun _ h => h, fun _ _ h => ⟨_, h⟩, fun a h => ?_, fun _ h => .inl h⟩
    by_cases e : a = p
    · subst e
      exact .inr (.inr fun o ho => by rw [hp] at ho; cases ho; exact ⟨.inl vs, rfl⟩)
    · rw [upd_ne e] at h; exact .inl h
  rcases g with ⟨rfl, rfl⟩ | ⟨p, o, hp, rfl, rfl⟩ | ⟨p, vs, hp, ⟨rfl, rfl⟩ | ⟨q, o, hq, rfl, rfl⟩⟩
  · exact Stp.refl _ _ _
  · exact Stp.new s hp
  · exact third hp
  · exact (third hp).trans (Stp.new (s.seen hp).2 hq)
theorem Grow.ss {K : PySem.W.Frag} {e : Env} {σ : L2.St} {F H F' H' : Hp} {fp : Nat → List Addr} (S : SS K bv e σ F H fp) (g : Grow F H F' H') : SS K bv e σ F' H' fp := by
  have third : ∀ {p vs}, H p = some (.tup vs) → SS K bv e σ (upd F p (.tup vs)) H fp := fun {p vs} hp => by
    refine S.heap (S.sub.seen hp).1 (S.sub.seen hp).2 (fun _ _ _ _ h => h) fun i a h => ?_
    rw [upd_ne fun z => S.ntup h (.inl vs) (by rw [z]; exact hp)]
    exact S.fr i a h
  rcases g with ⟨rfl, rfl⟩ | ⟨p, o, hp, rfl, rfl⟩ | ⟨p, vs, hp, ⟨rfl, rfl⟩ | ⟨q, o, hq, rfl, rfl⟩⟩
  · exact S
  · exact S.new hp
  · exact third hp
  · exact (third hp).new hq
def loopS (t : D → EM Unit) (g : EM Flow) : List D → EM Flow
  | [] => ret .nxt
  | d :: ds => fun e => match t d e with
    | .ok _ e1 => match g e1 with
      | .ok .nxt e' => loopS t g ds e'
      | .ok .cnt e' => loopS t g ds e'
      | .ok .brk e' => .ok .nxt e'
      | .ok (.ret m) e' => .ok (.ret m) e'
      | .ex C fs e' => .ex C fs e'
      | .no => .no
    | _ => .no
def forS (f : EM (List D)) (t : D → EM Unit) (g : EM Flow) : EM Flow := bnd f fun ds => loopS t g ds
theorem ds_for {tg iter : Expr} {body : List Stmt} {fi : EM (List D)} {l : List Nat} {t : D → EM Unit} (hi : DI X W bv tg iter fi) (hg : DG X bv tg l t) (hb : DSs X W bv body g) (hp : PassesOwn (model X.prog X.w) X.A X.env X.xe) (hc : X.calm = true := by rfl)
    (hs : ∀ x, foldedSetIterable iter X.env x = pure x := by intro _; rfl) : DS X W bv (.For tg iter body [] pos) (forS fi t g) :=
  ps_imp (ps_for hp hc hi hg hb hs) fun D σ H ⟨e, F, fp, S, q⟩ => by
    refine ⟨e, F, fp, S, ?_⟩
    unfold AtS forS bnd at q
    cases z : fi e with
    | no => rw [z] at q; exact q
    | ex C fs e' => rw [z] at q; exact fun F' H' fp' dx s S' x => q σ F' H' fp' dx s S' x
    | ok ds e1 =>
      rw [z] at q
      intro J F1 H1 fp1 s1 S1 wk
      have q1 : AtS X.K W bv (loopS t g ds) e1 σ F1 H1 fp1 D := AtS.back s1 q
      refine ⟨fun i m σ' H' => m = ds.length - i ∧ i ≤ ds.length ∧ ∃ e' F' fp', Sub F1 F' ∧ SS X.K bv e' σ' F' H' fp' ∧ AtS X.K W bv (loopS t g (ds.drop i)) e' σ' F' H' fp' D, ⟨ds.length, rfl, Nat.zero_le _, e1, F1, fp1, Sub.refl _, S1, q1⟩, ?_⟩
      rintro i m σ' H' ⟨rfl, hi, e', F', fp', sub, S', q'⟩
      obtain ⟨go, stop⟩ := wk F' H' i sub S'.sub
      by_cases hlt : i < ds.length
      · refine .inr ⟨(go ds[i] (List.getElem?_eq_getElem hlt)).1, _, fun σ2 H2 h2 => ⟨ds.length - (i + 1), by omega, h2⟩, fun x H2 y => ?_⟩
        obtain ⟨F2, gr, r2⟩ := (go ds[i] (List.getElem?_eq_getElem hlt)).2 x H2 y
        have S2 := gr.ss S'
        have s2 : Stp F' H' (Pf fp') F2 H2 (Pf fp') := gr.stp S'.sub
        have q2 := AtS.back (fp := fp') s2 q'
        rw [List.drop_eq_getElem_cons hlt] at q2
        refine ⟨e', F2, fp', ds[i], S2, r2, ?_⟩
        unfold AtS at q2
        simp only [loopS] at q2
        cases z2 : t ds[i] e' with
        | no => rw [z2] at q2; exact q2
        | ex _ _ _ => rw [z2] at q2; exact q2
        | ok _ e3 =>
          rw [z2] at q2
          dsimp only at q2 ⊢
          intro σ3 F3 H3 fp3 _ s3 S3
          refine ⟨e3, F3, fp3, S3, ?_⟩
          show OutS _ _ _ (g e3) _ _ _ _
          cases z3 : g e3 with
          | no => rw [z3] at q2; exact q2
          | ex C fs e4 => rw [z3] at q2; exact fun σ' F' H' fp' dx s => q2 σ' F' H' fp' dx (s3.trans s)
          | ok fl e4 =>
            rw [z3] at q2
            have again : ∀ σ4 F4 H4 fp4, Stp F3 H3 (Pf fp3) F4 H4 (Pf fp4) → SS X.K bv e4 σ4 F4 H4 fp4 → AtS X.K W bv (loopS t g (ds.drop (i + 1))) e4 σ' F2 H2 fp' D → ds.length - (i + 1) = ds.length - (i + 1) ∧ i + 1 ≤ ds.length ∧ ∃ e' F' fp', Sub F1 F' ∧ SS X.K bv e' σ4 F' H4 fp' ∧ AtS X.K W bv (loopS t g (ds.drop (i + 1))) e' σ4 F' H4 fp' D := fun σ4 F4 H4 fp4 s4 S4 q4 =>
              ⟨rfl, hlt, e4, F4, fp4, ((sub.trans s2.ext).trans s3.ext).trans s4.ext, S4, AtS.back (s3.trans s4) q4⟩
            cases fl with
            | nxt => exact fun σ4 F4 H4 fp4 s4 S4 => again σ4 F4 H4 fp4 s4 S4 q2
            | cnt => exact fun σ4 F4 H4 fp4 s4 S4 => again σ4 F4 H4 fp4 s4 S4 q2
            | brk => exact fun σ4 F4 H4 fp4 s4 S4 => q2 σ4 F4 H4 fp4 (s3.trans s4) S4
            | ret m => exact fun v σ4 F4 H4 fp4 P4 s4 S4 => q2 v σ4 F4 H4 fp4 P4 (s3.trans s4) S4
      · have ei : i = ds.length := by omega
        subst ei
        rw [List.drop_length] at q'
        exact .inl ⟨stop (Nat.le_refl _) (Nat.le_refl _), q' σ' F' H' fp' (Stp.refl _ _ _) S'⟩
/-! ### lists, tuples, texts, ranges -/
def itD : D → Option (List D)
  | .list ds => some ds
  | .tuple ds => some ds
  | .str x => some (x.cps.toList.map fun c => .str ⟨#[c]⟩)
  | _ => none
def itL : D → Option (List D)
  | .list ds => some ds
  | _ => none
def itT : D → Option (List D)
  | .tuple ds => some ds
  | _ => none
def itS : D → Option (List D)
  | .str x => some (x.cps.toList.map fun c => .str ⟨#[c]⟩)
  | _ => none
def itE (g : D → Option (List D)) (f : EM D) : EM (List D) := bnd f fun d => lif (g d)
theorem tI_bnd {K : PySem.W.Frag} {σ : L2.St} {H : Hp} {f : EM D} {k : D → Option (List D)} {R : It → Hp → Prop} (t : tI K W bv (itE k f) σ H R) :
    tE K W bv f σ H fun x H1 => ∃ d e1 F1 fp1 ds, SS K bv e1 σ F1 H1 fp1 ∧ Rp K F1 x d ∧ k d = some ds ∧ ∀ J F2 H2 fp2, Stp F1 H1 (Pf fp1) F2 H2 (Pf fp2) → SS K bv e1 σ F2 H2 fp2 → WalksD K J F2 ds → R J H2 := by
  obtain ⟨e, F, fp, S, q⟩ := t
  refine ⟨e, F, fp, S, ?_⟩
  unfold AtG
  unfold itE bnd at q
  cases z : f e with
  | no => rw [z] at q; exact q
  | ex C fs e' => rw [z] at q; exact q
  | ok d e1 =>
    rw [z] at q
    intro x F1 H1 fp1 P1 s1 S1 r1
    obtain ⟨rfl, r1⟩ := r1
    dsimp only at q
    cases z2 : k d with
    | none => rw [z2] at q; exact q.elim
    | some ds =>
      rw [z2] at q
      exact ⟨d, e1, F1, fp1, ds, S1, r1, z2, fun J F2 H2 fp2 s2 S2 w => q J F2 H2 fp2 (s1.trans s2) S2 w⟩
theorem di_list {tg : Expr} (h : DE X W bv a fa) : DI X W bv tg a (itE itL fa) :=
  pi_imp (pi_list h) fun σ H R t => tG.mono (tI_bnd t) fun x H1 ⟨d, e1, F1, fp1, ds, S1, r1, hk, q⟩ => by
    cases r1 with
    | lst hl rl =>
      cases hk
      refine ⟨_, rfl, ⟨_, S1.sub.l hl⟩, q _ F1 H1 fp1 (Stp.refl _ _ _) S1 fun F' H' i s1 s2 => ⟨fun d hd => ?_, fun h1 _ => ⟨_, s2.l (s1.l hl), by rw [rl.length]; exact h1⟩⟩⟩
      obtain ⟨v, hv, rv⟩ := rl.get hd
      exact ⟨⟨_, v, s2.l (s1.l hl), hv⟩, fun x H'' ⟨e1, y⟩ => ⟨F', .inl ⟨rfl, e1⟩, by
        have := y _ (s2.l (s1.l hl))
        rw [hv] at this
        cases this
        exact rv.mono s1⟩⟩
    | _ => cases hk
theorem di_tup {tg : Expr} (h : DE X W bv a fa) : DI X W bv tg a (itE itT fa) :=
  pi_imp (pi_tup h) fun σ H R t => tG.mono (tI_bnd t) fun x H1 ⟨d, e1, F1, fp1, ds, S1, r1, hk, q⟩ => by
    cases r1 with
    | tup hl rl =>
      cases hk
      refine ⟨_, rfl, ⟨_, S1.sub.t hl⟩, q _ F1 H1 fp1 (Stp.refl _ _ _) S1 fun F' H' i s1 s2 => ⟨fun d hd => ?_, fun h1 _ => ⟨_, (s1.trans s2).t hl, by rw [rl.length]; exact h1⟩⟩⟩
      obtain ⟨v, hv, rv⟩ := rl.get hd
      exact ⟨⟨_, v, (s1.trans s2).t hl, hv⟩, fun x H'' ⟨e1, y⟩ => ⟨F', .inl ⟨rfl, e1⟩, by
        have := y _ ((s1.trans s2).t hl)
        rw [hv] at this
        cases this
        exact rv.mono s1⟩⟩
    | _ => cases hk
theorem di_str {tg : Expr} (h : DE X W bv a fa) : DI X W bv tg a (itE itS fa) :=
  pi_imp (pi_str h) fun σ H R t => tG.mono (tI_bnd t) fun x H1 ⟨d, e1, F1, fp1, ds, S1, r1, hk, q⟩ => by
    cases r1 with
    | str z =>
      cases hk
      refine ⟨_, rfl, q _ F1 H1 fp1 (Stp.refl _ _ _) S1 fun F' H' i s1 s2 => ⟨fun d hd => ?_, fun h1 h2 => ?_⟩⟩
      · rw [List.getElem?_map] at hd
        obtain ⟨c, hc, rfl⟩ := Option.map_eq_some_iff.mp hd
        have hc' : z.cps[i]? = some c := by simpa using hc
        refine ⟨?_, fun x H'' ⟨e1, c', h1, h2⟩ => ⟨F', .inl ⟨rfl, e1⟩, ?_⟩⟩
        · exact (Array.getElem?_eq_some_iff.mp hc').1
        · rw [hc'] at h1
          cases h1
          subst h2
          exact .str _
      · show z.cps.size ≤ i
        simpa using h1
    | _ => cases hk
def rngDs (lo hi : Int) : List D := (List.range (hi - lo).toNat).map fun k => .int (lo + (k : Nat))
def small (i : Int) : Bool := decide (-(2 ^ 62) ≤ i) && decide (i < 2 ^ 62)
def rng1 : List D → Option (List D)
  | [.int j] => if small j then some (rngDs 0 j) else none
  | _ => none
theorem walks_rng {K : PySem.W.Frag} {F : Hp} {lo hi : Int} : WalksD K (Itr lo (hi - lo).toNat) F (rngDs lo hi) := fun F' H i s1 s2 => by
  have hl : (rngDs lo hi).length = (hi - lo).toNat := by simp [rngDs]
  refine ⟨fun d hd => ?_, fun h1 _ => by rw [hl] at h1; exact h1⟩
  unfold rngDs at hd
  rw [List.getElem?_map] at hd
  obtain ⟨k, hk, rfl⟩ := Option.map_eq_some_iff.mp hd
  have hk2 := List.getElem?_eq_some_iff.mp hk
  obtain ⟨h1, h2⟩ := hk2
  rw [List.getElem_range] at h2
  subst h2
  have h1' : i < (hi - lo).toNat := by
    rw [List.length_range] at h1
    exact h1
  refine ⟨h1', fun x H' ⟨e1, e2⟩ => ⟨F', .inl ⟨rfl, e1⟩, ?_⟩⟩
  subst e2
  exact .int _
def itA (g : List D → Option (List D)) (f : EM (List D)) : EM (List D) := bnd f fun ds => lif (g ds)
theorem tI_bndA {K : PySem.W.Frag} {σ : L2.St} {H : Hp} {f : EM (List D)} {k : List D → Option (List D)} {R : It → Hp → Prop} (t : tI K W bv (itA k f) σ H R) :
    tA K W bv f σ H fun x H1 => ∃ d e1 F1 fp1 ds, SS K bv e1 σ F1 H1 fp1 ∧ RpL K F1 x d ∧ k d = some ds ∧ ∀ J F2 H2 fp2, Stp F1 H1 (Pf fp1) F2 H2 (Pf fp2) → SS K bv e1 σ F2 H2 fp2 → WalksD K J F2 ds → R J H2 := by
  obtain ⟨e, F, fp, S, q⟩ := t
  refine ⟨e, F, fp, S, ?_⟩
  unfold AtG
  unfold itA bnd at q
  cases z : f e with
  | no => rw [z] at q; exact q
  | ex C fs e' => rw [z] at q; exact q
  | ok d e1 =>
    rw [z] at q
    intro x F1 H1 fp1 P1 s1 S1 r1
    obtain ⟨rfl, r1⟩ := r1
    dsimp only at q
    cases z2 : k d with
    | none => rw [z2] at q; exact q.elim
    | some ds =>
      rw [z2] at q
      exact ⟨d, e1, F1, fp1, ds, S1, r1, z2, fun J F2 H2 fp2 s2 S2 w => q J F2 H2 fp2 (s1.trans s2) S2 w⟩
theorem di_range1 {tg : Expr} {p : Pos} (hm : X.mg "range" = none) (ha : DA X W bv [a] fs) (hg : Gl X "range" := by rfl) (hs : starEach [a] X.env = [(false, eval a X.env)] := by rfl) : DI X W bv tg (.Call (.Name "range" p) [a] [] pos) (itA rng1 fs) :=
  pi_imp (pi_range1 hg hm ha hs) fun σ H R t => tG.mono (tI_bndA t) fun x H1 ⟨d, e1, F1, fp1, ds, S1, r1, hk, q⟩ => by
    unfold rng1 at hk
    split at hk
    · split at hk
      · rename_i j hj
        cases hk
        cases r1 with
        | cons r1 r =>
          cases r
          cases r1
          simp only [small, Bool.and_eq_true, decide_eq_true_eq] at hj
          refine ⟨j, rfl, hj.1, hj.2, q _ F1 H1 fp1 (Stp.refl _ _ _) S1 ?_⟩
          have := walks_rng (K := X.K) (F := F1) (lo := 0) (hi := j)
          rw [Int.sub_zero] at this
          exact this
      · cases hk
    · cases hk
end
end FD
/-! FD: a def's promise where no repr is under way (Around.guards is told), its body, its calls, the law's own call. -/
namespace FD
variable [TabT]
open PySem L2
open PyProof.Rows (AllBare)
section
variable (P : Program) (w : World) (K : PySem.W.Frag) (mg : Str → Option Value) (base : Heap)
/-- the def at f keeps the promise sp wherever no repr is under way; what may leave it the promise tells -/
structure FnG (k : Nat) (f : Addr) (fd : FuncData) (ps : List Str) (sp : Sp) : Prop where
  len : ∀ vs H Q E, sp vs H Q E → vs.length = ps.length
  go : ∀ {A : Around} {outer : List PySem.Env} {s : Shared} {H : Hp} {args : Args} {us : List Value} {vs : List V} {Q : VK} {E : XK}, A.guards = some [] → Room k A →
    Env0 P w K mg base A outer s H → BindsTo s fd args (ps.zip us) → Vals vs us → sp vs H Q E → codeAny (model P w) A (.call (.ref f) args) (CR (L2.CX P w) outer P w H s Q E) s
end
section
variable {P : Program} {w : World} {K : PySem.W.Frag} {mg : Str → Option Value} {base : Heap} {k : Nat} {f : Addr} {fd : FuncData} {ps : List Str} {sp : Sp}
/-- a def by its body -/
theorem fnG_ofC {x qual : Str} {st : Stmt} {N : List Str} (Fn : Fun K x qual st f fd) (Sc : FnScope N ps (defScope st)) (len : ∀ vs H Q E, sp vs H Q E → vs.length = ps.length)
    (body : ∀ (cd : Value) (A : Around) (outer : List PySem.Env) (s : Shared) (H : Hp) (vs : List V) (Q : VK) (E : XK), fd.code = cd → (A.deeper (PyProof.Rows.envOfC qual (defScope st) s.heap.objs.size f cd)).guards = some [] →
      Room k (A.deeper (PyProof.Rows.envOfC qual (defScope st) s.heap.objs.size f cd)) → sp vs H Q E →
      ∃ t, PSs (cxOf (L2.CX P w) P w K mg base N qual (defScope st) f cd A outer s H E) (defBody st) t ∧ t { nx := fun _ H' => Q .non H', rt := Q } (L2.start N vs) H) :
    FnG P w K mg base (k + 1) f fd ps sp := by
  obtain ⟨oc, od, kV, doc, pm, an, cd, ct, sl, hfd, lk, code⟩ := Fn.ex
  refine ⟨len, fun {A outer s H args us vs Q E} hg hr en bi rv hs => ?_⟩
  have old : ∀ b o, base.get? b = some o → s.heap.get? b = some o := fun b o z => (en.bs b o z).1
  have kin : K.In s.heap := en.mod.kin.keeps old
  rw [hfd] at lk bi
  have names : ∀ y ∈ ps.zip us, (defScope st).names.lookup y.1 = some .local ∨ ((defScope st).names.lookup y.1 = some .cell ∧ ((cellsFrom (s.heap.objs.size + 1) (defScope st).names []).lookup y.1).isSome = true) := by
    intro y hy
    have hm : y.1 ∈ ps := (List.of_mem_zip (show (y.1, y.2) ∈ ps.zip us from hy)).1
    exact (Sc.par y.1 hm).imp id fun z => ⟨z, PySem.W.cellsFrom_some _ _ _ (.inl z)⟩
  refine codeAny_call_function hr.depth (kin f _ lk) rfl Sc.co Sc.gen rfl (PySem.W.codeRec_of kin code) (bi _ _ _ _ ?_)
  refine wpAny_newFunctionEnv_cells Sc.kind names fun env he s1 ic => ?_
  subst he
  refine ⟨(en.mod.nolimit.keeps old).keeps ic.toInCall.keep, codeAny_func ?_⟩
  obtain ⟨t, ht, hq⟩ := body cd A outer s H vs Q E (by rw [hfd] <;> rfl) hg (hr.deeper _) hs
  have I : Inv (cxOf (L2.CX P w) P w K mg base N qual (defScope st) f cd A outer s H E) [] (L2.start N vs) H s1 := inv_start Sc hr.hd en (len vs H Q E hs) rv ic
  refine wpAny_mono (ht.run [] s1 (L2.start N vs) H _ I hq) ?_ fun _ _ z => z
  intro fl s' z
  cases fl with
  | ret u =>
    obtain ⟨v, σ', H', J, r, q⟩ := z
    exact ⟨v, H', J.os, J.bare, J.base, J.hok, r, q⟩
  | next =>
    obtain ⟨σ', H', J, q⟩ := z
    exact ⟨V.non, H', J.os, J.bare, J.base, J.hok, rfl, q⟩
  | brk => exact z.elim fun _ z => z.elim fun _ z => z.2.elim
  | cont => exact z.elim fun _ z => z.elim fun _ z => z.2.elim
end
section
variable {X : Cx} {k : Nat} {f : Addr} {fd : FuncData} {ps : List Str} {sp : Sp} {x : Str} {p pos : Pos} {e : Expr} {es : List Expr} {t : TA}
theorem pass0X {σ : L2.St} : PassesAt (L2.CX X.prog X.w) X σ E0 := fun _ _ _ _ _ _ c => by
  obtain ⟨_, _, _, _, _, _, _, _, _, _, _, _, z⟩ := c
  exact z.elim
theorem goG {E : XK} {pins : List (Addr × Obj)} {σ : L2.St} {H : Hp} {s : Shared} {Q : VK} {us : List Value} {vs : List V} {args : Args} (G : FnG X.prog X.w X.K X.mg X.base k f fd ps sp) (hg : X.A.guards = some []) (hr : Room k X.A) (hx : PassesAt (L2.CX X.prog X.w) X σ E) (I : Inv X pins σ H s)
    (bi : BindsTo s fd args (ps.zip us)) (rv : Vals vs us) (h : sp vs H Q E) : codeAny (model X.prog X.w) X.A (.call (.ref f) args) (callEnd (EP X pins σ Q) X.xe) s := by
  refine codeAny_mono (G.go hg hr I.env0 bi rv h) fun r s' z => ?_
  cases r with
  | error e => exact hx pins H s e s' I z
  | ok fl =>
    cases fl with
    | ret u => exact I.after z
    | _ => exact z.elim
/-- f(e, ..) -/
theorem pe_callGX {E : L2.St → XK} (hx : ∀ σ, PassesAt (L2.CX X.prog X.w) X σ (E σ)) (G : FnG X.prog X.w X.K X.mg X.base k f fd ps sp) (hg : X.A.guards = some []) (hr : Room k X.A) (gl : Gl X x) (hm : X.mg x = some (.ref f)) (hk : PySem.W.keepIn X.K (.ref f) = true) (hb : Binds X.K fd ps []) (ha : PA X (e :: es) t)
    (db : (x == ("__debug__" : Str)) = false) (he : starEach (e :: es) X.env = (false, eval e X.env) :: starEach es X.env) (hp : (backTo pos (starEach es X.env)).any (·.1) = false) :
    PE X (.Call (.Name x p) (e :: es) [] pos) (fun σ H Q => t σ H fun vs H1 => sp vs H1 Q (E σ)) := by
  refine ⟨fun pins s σ H Q I h => wpAny_Call_Name_kw (ld_glob I gl hm (PySem.W.callWith_K (h₀ := X.base) I.ok.mod.kin hk ?_ he hp) db)⟩
  refine thn (ha.run pos pins s σ H _ I h) ?_
  rintro us s1 ⟨vs, H1, I1, r, q⟩
  have hl : us.length = ps.length := r.length.symm.trans (G.len _ _ _ _ q)
  have bi := hb s1 us I1.kIn (by rw [List.append_nil]; exact hl)
  rw [List.append_nil] at bi
  exact ⟨I1.kIn, wpAny_call (goG G hg hr (hx σ) I1 bi r q)⟩
theorem pe_callG (G : FnG X.prog X.w X.K X.mg X.base k f fd ps sp) (hg : X.A.guards = some []) (hr : Room k X.A) (gl : Gl X x) (hm : X.mg x = some (.ref f)) (hk : PySem.W.keepIn X.K (.ref f) = true) (hb : Binds X.K fd ps []) (ha : PA X (e :: es) t)
    (db : (x == ("__debug__" : Str)) = false) (he : starEach (e :: es) X.env = (false, eval e X.env) :: starEach es X.env) (hp : (backTo pos (starEach es X.env)).any (·.1) = false) :
    PE X (.Call (.Name x p) (e :: es) [] pos) (fun σ H Q => t σ H fun vs H1 => sp vs H1 Q E0) := pe_callGX (E := fun _ => E0) (fun _ => pass0X) G hg hr gl hm hk hb ha db he hp
end
/-! ### the law's own call -/
section
variable {P : Program} {w : World} {K : PySem.W.Frag} {mg mb : Str → Option Value} {k : Nat} {fa a : Addr} {fd : FuncData} {x : Str} {sp : Sp} {s : Shared} {us : List Value} {ns : List Int}
theorem law_from {H : Hp} (kin : K.In s.heap) (gl : s.heap.Ns mainGlobals mg) (bl : s.heap.Ns builtinsNs mb) (bb : ∀ x : Str, x ≠ "__name__" → mb x = bootBuiltins x) (li : s.heap.NoLimit) (gn : s.gens = #[])
    (hr : Room k callerA) (F : ∀ base : Heap, K.In base → base.Ns mainGlobals mg → FnG P w K mg base k fa fd [x] sp) (hb : ∀ (s : Shared) (u : Value), BindsTo s fd ⟨[u], []⟩ [(x, u)])
    (hs : sp [.ref a] H (fun v _ => v = .bl true) fun _ _ _ => False) (ok : HOk P w H s.heap) (own : ∀ b o, H b = some o → (∃ ob, o = .frz ob (.lst (ns.map V.int))) ∧ b = a) (out : ∀ b o, H b = some o → K.lookup b = none)
    (nd : ∀ o, s.heap.get? a = some o → ∀ es ep, o.data ≠ .dict es ep) :
    codeAny (model P w) callerA (.call (.ref fa) ⟨[.ref a], []⟩) (fun r s' => r = .ok (.ret (.bool true)) ∧ OldK s.heap s'.heap ∧ s'.os = s.os ∧ AllBare s'.gens) s := by
  have free : ∀ {b : Addr} {o : Obj} {es : Array DictEntry} {ep : Nat}, s.heap.get? b = some o → o.data = .dict es ep → H b = none := by
    intro b o es ep h1 h2
    cases q : H b with
    | none => rfl
    | some u =>
      have := (own b u q).2
      subst this
      exact absurd h2 (nd o h1 es ep)
  have hid : ∀ {b : Addr} {m : Str → Option Value}, s.heap.Ns b m → (hidT s.heap H).Ns b m := by
    rintro b m ⟨o, es, ep, h1, h2, h3⟩
    exact ⟨o, es, ep, hidT_get h1 (free h1 h2), h2, h3⟩
  have kb : K.In (hidT s.heap H) := by
    intro b o z
    refine hidT_get (kin b o z) ?_
    cases q : H b with
    | none => rfl
    | some u => rw [out b u q] at z; cases z
  have md : Mod K mg (hidT s.heap H) := by
    obtain ⟨mc, l1, l2⟩ := li
    exact ⟨kb, hid gl, ⟨mb, hid bl, bb⟩, ⟨mc, hid l1, l2⟩⟩
  have en : Env0 P w K mg (hidT s.heap H) callerA [] s H := by
    refine ⟨rfl, md, fun b o z => of_hidT z, Nat.le_of_eq (hidT_size _ _), trivial, fun b z => ?_, ok, .of_eq gn⟩
    cases (show b ∈ ([] : List Addr) from z)
  refine codeAny_mono ((F _ kb (hid gl)).go (us := [.ref a]) (vs := [.ref a]) rfl hr en (hb s (.ref a)) (.cons rfl .nil) hs) ?_
  intro r s' z
  cases r with
  | error _ =>
    obtain ⟨_, _, _, _, _, _, _, _, _, _, _, _, z⟩ := z
    exact z.elim
  | ok fl =>
    cases fl with
    | ret u =>
      obtain ⟨v, H', h1, h2, un, ok', rv, q⟩ := z
      rw [show v = .bl true from q] at rv
      rw [show u = Value.bool true from rv]
      refine ⟨rfl, OldK.of_keep fun b o z => ?_, h1, h2⟩
      cases q : H b with
      | none => exact un.keep b o z q (fun y => by cases (show b ∈ ([] : List Addr) from y)) (by simp)
      | some u =>
        obtain ⟨⟨ob, e1⟩, _⟩ := own b u q
        subst e1
        have y1 := (ok b _ q).1
        have y2 := (ok' b _ (un.frzs b ob _ q)).1
        rw [y1] at z
        cases z
        exact y2
    | _ => exact z.elim
theorem walk_G {l : PySem.W.OpenLaw} {n k : Nat} {q : Program} {loose : List Str} {XP : (Str → Option Value) → Heap → Prop} {YP : World → Heap → Prop} {d : DefRec} {K : Params → PySem.W.Frag} {sp : PySem.W.Frag → Sp} {x : Str} (hn : l.most = some n) (hz : n ≤ sizeLine) (hdf : d.params.defaults = []) (hr : Room k callerA)
    (hY : ∀ (w : World) (h : Heap), YP w h → (K w.params).In h)
    (F : ∀ (w : World) (mg : Str → Option Value) (fa : Addr) (h : Heap), (K w.params).In h → h.Ns mainGlobals mg → mg d.name = some (.ref fa) → ∃ fd : FuncData, (∀ (s : Shared) (u : Value), BindsTo s fd ⟨[u], []⟩ [(x, u)]) ∧
      ∀ base : Heap, (K w.params).In base → base.Ns mainGlobals mg → FnG l.prog w (K w.params) mg base k fa fd [x] (sp (K w.params)))
    (hs : ∀ (K : PySem.W.Frag) (H : Hp) (a : Addr) (ns : List Int), ns.length ≤ n → SqL K H a (ns.map V.int) → sp K [.ref a] H (fun v _ => v = .bl true) fun _ _ _ => False) :
    PySem.W.WalkO q loose XP YP l.row.toRowW d [] (fun f vs => PySem.call f vs) := by
  refine Att.attach_call hn hdf ?_
  intro w s₀ s mg mb fa o pm cd doc a vs ns G Y _ _ _ hmg ho hi hl hg
  obtain ⟨fd, hb, hF⟩ := F w mg fa s.heap (hY w _ Y) G.T.g hmg
  have rv := vals_ints hi
  have nd : ∀ o, s.heap.get? a = some o → ∀ es ep, o.data ≠ .dict es ep := by
    intro o z es ep y
    rw [ho] at z
    cases z
    cases y
  cases hk : (K w.params).lookup a with
  | some o' =>
    have e := hY w _ Y a o' hk
    rw [ho] at e
    cases e
    refine law_from (H := fun _ => none) (ns := ns) (hY w _ Y) G.T.g G.T.b G.T.builtins G.T.nolimit hg hr hF hb (hs _ _ a ns hl (.inr ⟨_, vs.toArray, _, hk, rfl, rfl, rfl, ?_, by simpa using rv⟩)) (fun b o z => ?_) (fun b o z => ?_) (fun b o z => ?_) nd
    · rw [List.size_toArray, hi.length]
      exact Nat.le_trans hl hz
    · cases (show (none : Option HO) = some o from z)
    · cases (show (none : Option HO) = some o from z)
    · cases (show (none : Option HO) = some o from z)
  | none =>
    have at_ : ∀ b o, (upd (fun _ => none) a (.frz { cls := .type "list", data := .seq vs.toArray } (.lst (ns.map V.int))) : Hp) b = some o → o = .frz { cls := .type "list", data := .seq vs.toArray } (.lst (ns.map V.int)) ∧ b = a := by
      intro b o z
      by_cases hb : b = a
      · rw [hb, upd_same] at z
        exact ⟨(Option.some.inj z).symm, hb⟩
      · rw [upd_ne hb] at z
        cases (show (none : Option HO) = some o from z)
    refine law_from (H := upd (fun _ => none) a (.frz { cls := .type "list", data := .seq vs.toArray } (.lst (ns.map V.int)))) (ns := ns) (hY w _ Y) G.T.g G.T.b G.T.builtins G.T.nolimit hg hr hF hb (hs _ _ a ns hl (.inl (.inr ⟨_, upd_same⟩))) (fun b o z => ?_) (fun b o z => ⟨⟨_, (at_ b o z).1⟩, (at_ b o z).2⟩) (fun b o z => by rw [(at_ b o z).2]; exact hk) nd
    obtain ⟨h1, h2⟩ := at_ b o z
    subst h1 h2
    exact ⟨ho, by rw [List.length_map]; exact Nat.le_trans hl hz, vs, _, rv, ho⟩
end
end FD
/-! FD: defs and their calls. -/
namespace FD
variable [TabT]
open PySem L2
inductive FOut where
  | ok (r : M) (ms : List M)
  | ex (C : Str) (fs : List (Str × D)) (ms : List M)
  | no
def isIm : M → Bool
  | .im _ => true
  | _ => false
def args0 (n : Nat) (ms : List M) : Env := ms.map some ++ List.replicate (n - ms.length) none
/-- what the arguments are behind the call: those at B as the body leaves them, the others data -/
def backs (B : List Nat) (e' : Env) : Nat → List M → Option (List M)
  | _, [] => some []
  | i, m :: ms => if B.contains i then (match e'[i]? with
      | some (some m') => (backs B e' (i + 1) ms).map (m' :: ·)
      | _ => none) else if isIm m then (backs B e' (i + 1) ms).map (m :: ·) else (backs B e' (i + 1) ms).map (.gone :: ·)
def endF (B : List Nat) (ms : List M) (o : Out Flow) : FOut := match o with
  | .ok (.ret r) e' => match backs B e' 0 ms with
    | some ms' => .ok r ms'
    | none => .no
  | .ok .nxt e' => match backs B e' 0 ms with
    | some ms' => .ok (.im .none) ms'
    | none => .no
  | _ => .no
/-- a def of np parameters, nN names in all, B: the parameters that it may change, g: its body -/
def defF (np nN : Nat) (B : List Nat) (g : EM Flow) (ms : List M) : FOut := if ms.length = np then endF B ms (g (args0 nN ms)) else .no
def bv0 : Nat → Option V := fun _ => none
def W0 : WX := fun _ _ _ _ => False
def bvB (B : List Nat) (vs : List V) : Nat → Option V := fun i => if B.contains i then vs[i]? else none
/-- the promise of a def -/
def spF (K : PySem.W.Frag) (Fs : List M → FOut) : Sp := fun vs H Q E => ∃ ms F fp, SS K bv0 (ms.map some) (vs.map some) F H fp ∧ match Fs ms with
  | .ok r ms' => ∀ v F' H' fp' P', Stp F H (Pf fp) F' H' P' → SS K bv0 (ms'.map some) (vs.map some) F' H' fp' → (∃ fpr : List Addr, (∀ a, Pf fp' a ∨ a ∈ fpr → P' a) ∧ Own K F' H' v r fpr ∧ fpr.Nodup ∧ (∀ a ∈ fpr, ¬ Pf fp' a) ∧ ∀ a ∈ fpr, F' a = none) → Q v H'
  | .ex C fs ms' => ∀ F' H' fp' dx, Stp F H (Pf fp) F' H' (Pf fp') → SS K bv0 (ms'.map some) (vs.map some) F' H' fp' → XRep K F' fs dx → E (clsV K C) dx H'
  | .no => False
theorem backs_len {B : List Nat} {e' : Env} : ∀ {i : Nat} {ms ms' : List M}, backs B e' i ms = some ms' → ms'.length = ms.length
  | _, [], _, h => by cases h; rfl
  | i, m :: ms, ms', h => by
    unfold backs at h
    split at h
    · split at h
      · obtain ⟨r, h1, rfl⟩ := Option.map_eq_some_iff.mp h
        rw [List.length_cons, List.length_cons, backs_len h1]
      · cases h
    · split at h
      · obtain ⟨r, h1, rfl⟩ := Option.map_eq_some_iff.mp h
        rw [List.length_cons, List.length_cons, backs_len h1]
      · obtain ⟨r, h1, rfl⟩ := Option.map_eq_some_iff.mp h
        rw [List.length_cons, List.length_cons, backs_len h1]
theorem backs_get {B : List Nat} {e' : Env} : ∀ {i : Nat} {ms ms' : List M} {j : Nat} {m' : M}, backs B e' i ms = some ms' → ms'[j]? = some m' → (B.contains (i + j) = true ∧ e'[i + j]? = some (some m')) ∨ (B.contains (i + j) = false ∧ ((ms[j]? = some m' ∧ isIm m' = true) ∨ m' = .gone))
  | _, [], _, _, _, h, q => by cases h; simp at q
  | i, m :: ms, ms', j, m', h, q => by
    unfold backs at h
    split at h
    · rename_i hB
      split at h
      · rename_i m1 he
        obtain ⟨r, h1, rfl⟩ := Option.map_eq_some_iff.mp h
        cases j with
        | zero =>
          simp at q
          subst q
          exact .inl ⟨hB, he⟩
        | succ j =>
          have := backs_get (j := j) (m' := m') h1 (by simpa using q)
          rw [show i + 1 + j = i + (j + 1) by omega] at this
          simpa using this
      · cases h
    · rename_i hB
      split at h
      · rename_i hm
        obtain ⟨r, h1, rfl⟩ := Option.map_eq_some_iff.mp h
        cases j with
        | zero =>
          simp at q
          subst q
          exact .inr ⟨by simpa using hB, .inl ⟨by simp, hm⟩⟩
        | succ j =>
          have := backs_get (j := j) (m' := m') h1 (by simpa using q)
          rw [show i + 1 + j = i + (j + 1) by omega] at this
          simpa using this
      · obtain ⟨r, h1, rfl⟩ := Option.map_eq_some_iff.mp h
        cases j with
        | zero =>
          simp at q
          subst q
          exact .inr ⟨by simpa using hB, .inr rfl⟩
        | succ j =>
          have := backs_get (j := j) (m' := m') h1 (by simpa using q)
          rw [show i + 1 + j = i + (j + 1) by omega] at this
          simpa using this
/-- the entry -/
theorem SS.entry {K : PySem.W.Frag} {ms : List M} {vs : List V} {F H : Hp} {fp : Nat → List Addr} {N : List Str} {B : List Nat} (S : SS K bv0 (ms.map some) (vs.map some) F H fp) (hl : vs.length ≤ N.length) : SS K (bvB B vs) (args0 N.length ms) (L2.start N vs) F H fp := by
  have hlen : ms.length = vs.length := by simpa using S.len
  have lt : ∀ {i : Nat} {x : Option M}, (args0 N.length ms)[i]? = some x → x ≠ none → i < ms.length := fun {i x} h n => by
    by_cases hi : i < ms.length
    · exact hi
    · unfold args0 at h
      rw [List.getElem?_append_right (by simpa using hi), List.getElem?_replicate] at h
      split at h
      · cases h; exact absurd rfl n
      · cases h
  have ge : ∀ {i : Nat}, i < ms.length → (args0 N.length ms)[i]? = (ms.map some)[i]? := fun {i} hi => by
    unfold args0
    rw [List.getElem?_append_left (by simpa using hi)]
  have gs : ∀ {i : Nat}, i < vs.length → (L2.start N vs)[i]? = (vs.map some)[i]? := fun {i} hi => by
    unfold L2.start
    rw [List.getElem?_append_left (by simpa using hi)]
  refine ⟨S.sub, fun i m h => ?_, fun i a h => ?_, S.nd, S.dj, S.fr, fun i v h => ?_, ?_, S.tab⟩
  · have hi := lt h (by simp)
    rw [ge hi] at h
    rw [gs (by omega)]
    exact S.own i m h
  · obtain ⟨m, q⟩ := S.nil i a h
    have hi : i < ms.length := by
      have := (List.getElem?_eq_some_iff.mp q).1
      simpa using this
    rw [ge hi]
    exact ⟨m, q⟩
  · unfold bvB at h
    split at h
    · have hi := (List.getElem?_eq_some_iff.mp h).1
      rw [gs hi, List.getElem?_map, h]
      rfl
    · cases h
  · unfold args0 L2.start
    simp only [List.length_append, List.length_map, List.length_replicate]
    omega
def fpB (B : List Nat) (n : Nat) (fp : Nat → List Addr) : Nat → List Addr := fun i => if B.contains i && decide (i < n) then fp i else []
theorem mem_fpB {B : List Nat} {n : Nat} {fp : Nat → List Addr} {i : Nat} {a : Addr} (h : a ∈ fpB B n fp i) : a ∈ fp i ∧ B.contains i = true ∧ i < n := by
  unfold fpB at h
  split at h
  · rename_i hc
    rw [Bool.and_eq_true, decide_eq_true_eq] at hc
    exact ⟨h, hc.1, hc.2⟩
  · cases h
theorem fpB_in {B : List Nat} {n : Nat} {fp : Nat → List Addr} {i : Nat} (h1 : B.contains i = true) (h2 : i < n) : fpB B n fp i = fp i := by
  unfold fpB
  rw [if_pos (by rw [h1, decide_eq_true h2]; rfl)]
theorem fpB_out {B : List Nat} {n : Nat} {fp : Nat → List Addr} {i : Nat} (h1 : B.contains i = false) : fpB B n fp i = [] := by
  unfold fpB
  rw [if_neg (by rw [h1]; exact Bool.false_ne_true)]
/-- the end: what the caller sees of the arguments -/
theorem SS.leave {K : PySem.W.Frag} {ms ms' : List M} {vs : List V} {F H F' H' : Hp} {fp fp' : Nat → List Addr} {N : List Str} {B : List Nat} {e' : Env} {σ' : L2.St} (S : SS K bv0 (ms.map some) (vs.map some) F H fp) (s : Sub F F') (S' : SS K (bvB B vs) e' σ' F' H' fp') (hb : backs B e' 0 ms = some ms') :
    SS K bv0 (ms'.map some) (vs.map some) F' H' (fpB B ms.length fp') := by
  have hlen : ms.length = vs.length := by simpa using S.len
  have hl' := backs_len hb
  refine ⟨S'.sub, fun i m h => ?_, fun i a h => ?_, fun i => ?_, fun i j a h1 h2 => S'.dj i j a (mem_fpB h1).1 (mem_fpB h2).1, fun i a h => S'.fr i a (mem_fpB h).1, fun i v h => (by cases h), by rw [List.length_map, List.length_map, hl', hlen], S'.tab⟩
  · rw [List.getElem?_map] at h
    obtain ⟨m1, h1, h2⟩ := Option.map_eq_some_iff.mp h
    cases h2
    have hi : i < ms.length := by
      have := (List.getElem?_eq_some_iff.mp h1).1
      omega
    have hv : (vs.map some)[i]? = some (some (vs[i]'(by omega))) := by
      rw [List.getElem?_map, List.getElem?_eq_getElem (by omega)]
      rfl
    rcases backs_get hb h1 with ⟨hB, q⟩ | ⟨hB, ⟨q, hm⟩ | q⟩
    · rw [Nat.zero_add] at hB q
      obtain ⟨v, q1, o⟩ := S'.own i m q
      have q2 := S'.bor i (vs[i]'(by omega)) (by unfold bvB; rw [if_pos hB]; exact List.getElem?_eq_getElem _)
      rw [q1] at q2
      cases q2
      refine ⟨_, hv, ?_⟩
      rw [fpB_in hB hi]
      exact o
    · rw [Nat.zero_add] at hB
      obtain ⟨v, q1, o⟩ := S.own i m (by rw [List.getElem?_map, q]; rfl)
      rw [fpB_out hB]
      refine ⟨v, q1, ?_⟩
      cases m with
      | im d =>
        generalize fp i = l at o
        cases o with
        | im r => exact .im (r.mono s)
      | _ => cases hm
    · rw [Nat.zero_add] at hB
      subst q
      rw [fpB_out hB]
      exact ⟨_, hv, .gone⟩
  · have hi := (mem_fpB h).2.2
    exact ⟨ms'[i]'(by omega), by rw [List.getElem?_map, List.getElem?_eq_getElem (by omega)]; rfl⟩
  · unfold fpB
    split
    · exact S'.nd i
    · exact List.nodup_nil
section
variable {P : Program} {w : World} {K : PySem.W.Frag} {mg : Str → Option Value} {base : Heap}
theorem defF_len {np nN : Nat} {B : List Nat} {g : EM Flow} {ms : List M} (h : defF np nN B g ms ≠ .no) : ms.length = np := by
  unfold defF at h
  split at h
  · assumption
  · exact absurd rfl h
theorem spF_len {Fs : List M → FOut} {np : Nat} (hF : ∀ ms, Fs ms ≠ .no → ms.length = np) : ∀ vs H Q E, spF K Fs vs H Q E → vs.length = np := fun vs H Q E ⟨ms, F, fp, S, q⟩ => by
  have hlen : ms.length = vs.length := by simpa using S.len
  rw [← hlen]
  refine hF ms fun z => ?_
  rw [z] at q
  exact q
/-- a def without exceptions -/
theorem fn_FC {x qual : Str} {st : Stmt} {f : Addr} {fd : FuncData} {N ps : List Str} {k : Nat} {B : List Nat} {g : EM Flow} (Fn : Fun K x qual st f fd) (Sc : FnScope N ps (defScope st))
    (hbody : ∀ (cdv : Value) (A : Around) (outer : List PySem.Env) (s : Shared) (H : Hp) (vs : List V) (E : XK), fd.code = cdv → (A.deeper (PyProof.Rows.envOfC qual (defScope st) s.heap.objs.size f cdv)).guards = some [] →
      Room k (A.deeper (PyProof.Rows.envOfC qual (defScope st) s.heap.objs.size f cdv)) →
      DSs (cxOf CX0 P w K mg base N qual (defScope st) f cdv A outer s H E).nox W0 (bvB B vs) (defBody st) g) :
    FnG P w K mg base (k + 1) f fd ps (spF K (defF ps.length N.length B g)) := by
  have hpl : ps.length ≤ N.length := by have := congrArg List.length Sc.pre; rw [List.length_take] at this; omega
  refine fnG_ofC Fn Sc (spF_len fun ms h => defF_len h) fun cdv A outer s H vs Q E hcd hg hr h => ?_
  refine ⟨_, PSs.nox (X := cxOf (L2.CX P w) P w K mg base N qual (defScope st) f cdv A outer s H E) (hbody cdv A outer s H vs E hcd hg hr), ?_⟩
  obtain ⟨ms, F, fp, S, q⟩ := h
  have hlen : ms.length = vs.length := by simpa using S.len
  unfold defF at q
  by_cases hn : ms.length = ps.length
  · rw [if_pos hn] at q
    refine ⟨args0 N.length ms, F, fp, S.entry (by omega), ?_⟩
    show OutS _ _ _ (g (args0 N.length ms)) _ _ _ _
    cases z : g (args0 N.length ms) with
    | no => rw [z] at q; exact q
    | ex C fs e' => rw [z] at q; exact q.elim
    | ok fl e' =>
      rw [z] at q
      have fin : ∀ (r : M) (ms' : List M), backs B e' 0 ms = some ms' → (∀ v F' H' fp' P', Stp F H (Pf fp) F' H' P' → SS K bv0 (ms'.map some) (vs.map some) F' H' fp' → (∃ fpr : List Addr, (∀ a, Pf fp' a ∨ a ∈ fpr → P' a) ∧ Own K F' H' v r fpr ∧ fpr.Nodup ∧ (∀ a ∈ fpr, ¬ Pf fp' a) ∧ ∀ a ∈ fpr, F' a = none) → Q v H') →
          ∀ v σ' F' H' fp' P', Stp F H (Pf fp) F' H' P' → SS K (bvB B vs) e' σ' F' H' fp' → rM K F' H' fp' P' v r → Q v H' := fun r ms' hb q v σ' F' H' fp' P' s' S' ⟨fpr, hP, o, nd, dj, fr⟩ => by
        have sub : ∀ a, Pf (fpB B ms.length fp') a → Pf fp' a := fun a ⟨i, hi⟩ => ⟨i, (mem_fpB hi).1⟩
        refine q v F' H' _ P' s' (S.leave (N := N) s'.ext S' hb) ⟨fpr, fun a ha => ?_, o, nd, fun a ha z => dj a ha (sub a z), fr⟩
        rw [hP]
        rcases ha with ha | ha
        · exact .inl (sub a ha)
        · exact .inr ha
      cases fl with
      | nxt =>
        unfold endF at q
        dsimp only at q
        cases hb : backs B e' 0 ms with
        | none => rw [hb] at q; exact q.elim
        | some ms' =>
          rw [hb] at q
          exact fun σ' F' H' fp' s' S' => fin (.im .none) ms' hb q .non σ' F' H' fp' (Pf fp') s' S' (rM_im .non)
      | ret r =>
        unfold endF at q
        dsimp only at q
        cases hb : backs B e' 0 ms with
        | none => rw [hb] at q; exact q.elim
        | some ms' =>
          rw [hb] at q
          exact fin r ms' hb q
      | brk => exact q.elim
      | cnt => exact q.elim
  · rw [if_neg hn] at q
    exact q.elim
theorem fn_F {x qual : Str} {st : Stmt} {f : Addr} {fd : FuncData} {N ps : List Str} {k : Nat} {B : List Nat} {g : EM Flow} (Fn : Fun K x qual st f fd) (Sc : FnScope N ps (defScope st))
    (hbody : ∀ (cdv : Value) (A : Around) (outer : List PySem.Env) (s : Shared) (H : Hp) (vs : List V) (E : XK), (A.deeper (PyProof.Rows.envOfC qual (defScope st) s.heap.objs.size f cdv)).guards = some [] →
      Room k (A.deeper (PyProof.Rows.envOfC qual (defScope st) s.heap.objs.size f cdv)) →
      DSs (cxOf CX0 P w K mg base N qual (defScope st) f cdv A outer s H E).nox W0 (bvB B vs) (defBody st) g) :
    FnG P w K mg base (k + 1) f fd ps (spF K (defF ps.length N.length B g)) :=
  fn_FC Fn Sc fun cdv A outer s H vs E _ hg hr => hbody cdv A outer s H vs E hg hr
end
/-! ### calls -/
/-- an argument: data, or a slot whose thing the callee may change -/
inductive AR where
  | d (d : D)
  | b (s : Nat)
def rAR (K : PySem.W.Frag) (σ : L2.St) : Hp → List V → List AR → Prop
  | _, [], [] => True
  | F, x :: xs, .d d :: as => Rp K F x d ∧ rAR K σ F xs as
  | F, x :: xs, .b s :: as => σ[s]? = some (some x) ∧ rAR K σ F xs as
  | _, _, _ => False
def tR (K : PySem.W.Frag) (W : WX) (bv : Nat → Option V) (f : EM (List AR)) : TA := fun σ H Q => tG K W bv (smp (rAR K σ)) f σ H Q
abbrev DR (X : Cx) (W : WX) (bv : Nat → Option V) (es : List Expr) (f : EM (List AR)) : Prop := PA X es (tR X.K W bv f)
def arN : EM (List AR) := ret []
def arD (f : EM D) (g : EM (List AR)) : EM (List AR) := bnd f fun d => bnd g fun as => ret (.d d :: as)
def arB (s : Nat) (g : EM (List AR)) : EM (List AR) := fun e => match e[s]? with
  | some (some _) => bnd g (fun as => ret (.b s :: as)) e
  | _ => .no
section
variable {X : Cx} {W : WX} {bv : Nat → Option V} {pos : Pos} {a : Expr} {es : List Expr} {fa : EM D} {fr : EM (List AR)}
theorem dr_nil : DR X W bv [] arN := pa_imp pa_nil fun σ H Q ⟨e, F, fp, S, q⟩ => AtG.here (r := rAR X.K σ) S q trivial
theorem dr_d (h : DE X W bv a fa) (hr : DR X W bv es fr) (hs : starEach (a :: es) X.env = (false, eval a X.env) :: starEach es X.env := by rfl) : DR X W bv (a :: es) (arD fa fr) :=
  pa_imp (pa_cons h hr hs) fun σ H Q t => by
    refine tG.mono (tG.bnd (r := rD X.K) t) fun x H1 ⟨d, e1, F1, fp1, S1, r1, q1⟩ => ?_
    refine tG.mono (AtG.bnd' (r := rAR X.K σ) S1 q1) fun xs H2 ⟨as, e2, F2, fp2, s2, S2, r2, q2⟩ => ?_
    exact AtG.here (r := rAR X.K σ) S2 q2 ⟨Rp.mono s2 r1, r2⟩
theorem dr_b (s : Nat) {x : Str} (hr : DR X W bv es fr) (hN : X.N[s]? = some x := by rfl) (hv : Vis X.env.scope x := by first | exact Or.inl rfl | exact Or.inr (Or.inl rfl) | exact Or.inr (Or.inr rfl)) (hd : (x == ("__debug__" : Str)) = false := by decide)
    (hcd : (x == ("__classdict__" : Str)) = false := by decide) (hs : starEach (.Name x pos :: es) X.env = (false, eval (.Name x pos) X.env) :: starEach es X.env := by rfl) : DR X W bv (.Name x pos :: es) (arB s fr) :=
  pa_imp (pa_cons (pe_var hN hv hd hcd) hr hs) fun σ H Q t => by
    obtain ⟨e, F, fp, S, q⟩ := t
    cases he : e[s]? with
    | none => unfold AtG arB at q; rw [he] at q; exact q.elim
    | some o =>
      cases o with
      | none => unfold AtG arB at q; rw [he] at q; exact q.elim
      | some m =>
        obtain ⟨v, hv, _⟩ := S.own s m he
        refine ⟨v, hv, ?_⟩
        have q : AtG X.K W bv (smp (rAR X.K σ)) (bnd fr fun as => ret (.b s :: as)) e σ F H fp Q := by
          unfold AtG arB at q
          rw [he] at q
          exact q
        refine tG.mono (AtG.bnd' (r := rAR X.K σ) S q) fun xs H2 ⟨as, e2, F2, fp2, s2, S2, r2, q2⟩ => ?_
        exact AtG.here (r := rAR X.K σ) S2 q2 ⟨hv, r2⟩
def slotsOf : List AR → List Nat
  | [] => []
  | .d _ :: r => slotsOf r
  | .b s :: r => s :: slotsOf r
def argM (e : Env) : List AR → Option (List M)
  | [] => some []
  | .d d :: r => (argM e r).map (.im d :: ·)
  | .b s :: r => match e[s]? with
    | some (some m) => (argM e r).map (m :: ·)
    | _ => none
def putB (e : Env) : List AR → List M → Env
  | .b s :: r, m :: ms => (putB e r ms).set s (some m)
  | .d _ :: r, _ :: ms => putB e r ms
  | _, _ => e
/-- a call -/
def callM (Fs : List M → FOut) (fr : EM (List AR)) : EM M := bnd fr fun as e => if (slotsOf as).Nodup then (match argM e as with
  | none => .no
  | some ms => match Fs ms with
    | .ok r ms' => if ms'.length = ms.length then .ok r (putB e as ms') else .no
    | _ => .no) else .no
def callD (Fs : List M → FOut) (fr : EM (List AR)) : EM D := bnd (callM Fs fr) fun m => lif m.toD
theorem putB_len {e : Env} : ∀ {as : List AR} {ms : List M}, (putB e as ms).length = e.length
  | [], _ => rfl
  | .d _ :: _, [] => rfl
  | .b _ :: _, [] => rfl
  | .d _ :: r, _ :: ms => putB_len (as := r)
  | .b s :: r, m :: ms => by
    show ((putB e r ms).set s (some m)).length = _
    rw [List.length_set, putB_len (as := r)]
theorem putB_out {e : Env} {i : Nat} : ∀ {as : List AR} {ms : List M}, i ∉ slotsOf as → (putB e as ms)[i]? = e[i]?
  | [], _, _ => rfl
  | .d _ :: _, [], _ => rfl
  | .b _ :: _, [], _ => rfl
  | .d _ :: r, _ :: ms, h => putB_out (as := r) h
  | .b s :: r, m :: ms, h => by
    show ((putB e r ms).set s (some m))[i]? = _
    simp only [slotsOf, List.mem_cons, not_or] at h
    rw [List.getElem?_set_ne (Ne.symm h.1), putB_out (as := r) h.2]
theorem slots_ix {i : Nat} : ∀ {as : List AR}, i ∈ slotsOf as → ∃ j : Nat, as[j]? = some (AR.b i)
  | [], h => by cases h
  | .d _ :: r, h => by
    obtain ⟨j, q⟩ := slots_ix (as := r) h
    exact ⟨j + 1, by simpa using q⟩
  | .b s :: r, h => by
    rcases List.mem_cons.mp h with rfl | h
    · exact ⟨0, rfl⟩
    · obtain ⟨j, q⟩ := slots_ix (as := r) h
      exact ⟨j + 1, by simpa using q⟩
theorem ix_slots {i : Nat} : ∀ {as : List AR} {j : Nat}, as[j]? = some (.b i) → i ∈ slotsOf as
  | [], _, h => by simp at h
  | .d _ :: r, 0, h => by simp at h
  | .b s :: r, 0, h => by
    simp at h
    subst h
    exact List.mem_cons_self
  | .d _ :: r, j + 1, h => ix_slots (as := r) (j := j) (by simpa using h)
  | .b s :: r, j + 1, h => List.mem_cons_of_mem _ (ix_slots (as := r) (j := j) (by simpa using h))
theorem slots_inj {i : Nat} : ∀ {as : List AR} {j k : Nat}, (slotsOf as).Nodup → as[j]? = some (.b i) → as[k]? = some (.b i) → j = k
  | [], _, _, _, h, _ => by simp at h
  | .d _ :: r, 0, _, _, h, _ => by simp at h
  | .d _ :: r, _ + 1, 0, _, _, h => by simp at h
  | .d _ :: r, j + 1, k + 1, nd, h1, h2 => congrArg (· + 1) (slots_inj (as := r) (j := j) (k := k) nd (by simpa using h1) (by simpa using h2))
  | .b s :: r, 0, 0, _, _, _ => rfl
  | .b s :: r, 0, k + 1, nd, h1, h2 => by
    simp at h1
    subst h1
    exact absurd (ix_slots (as := r) (j := k) (by simpa using h2)) (List.nodup_cons.mp nd).1
  | .b s :: r, j + 1, 0, nd, h1, h2 => by
    simp at h2
    subst h2
    exact absurd (ix_slots (as := r) (j := j) (by simpa using h1)) (List.nodup_cons.mp nd).1
  | .b s :: r, j + 1, k + 1, nd, h1, h2 => congrArg (· + 1) (slots_inj (as := r) (j := j) (k := k) (List.nodup_cons.mp nd).2 (by simpa using h1) (by simpa using h2))
theorem putB_in {e : Env} {i : Nat} (hi : i < e.length) : ∀ {as : List AR} {ms : List M} {j : Nat} {m : M}, (slotsOf as).Nodup → as[j]? = some (.b i) → ms[j]? = some m → (putB e as ms)[i]? = some (some m)
  | [], _, _, _, _, h, _ => by simp at h
  | _ :: _, [], _, _, _, _, h => by simp at h
  | .d _ :: r, _ :: ms, 0, _, _, h, _ => by simp at h
  | .d _ :: r, _ :: ms, j + 1, m, nd, h1, h2 => putB_in hi (as := r) (j := j) nd (by simpa using h1) (by simpa using h2)
  | .b s :: r, m' :: ms, 0, m, nd, h1, h2 => by
    simp at h1 h2
    subst h1 h2
    show ((putB e r ms).set s (some m'))[s]? = _
    rw [List.getElem?_set_self (by rw [putB_len]; exact hi)]
  | .b s :: r, m' :: ms, j + 1, m, nd, h1, h2 => by
    have ne : s ≠ i := fun q => by
      subst q
      exact (List.nodup_cons.mp nd).1 (ix_slots (as := r) (j := j) (by simpa using h1))
    show ((putB e r ms).set s (some m'))[i]? = _
    rw [List.getElem?_set_ne ne]
    exact putB_in hi (as := r) (j := j) (List.nodup_cons.mp nd).2 (by simpa using h1) (by simpa using h2)
theorem argM_get {e : Env} : ∀ {as : List AR} {ms : List M} {j : Nat}, argM e as = some ms → (∀ d, as[j]? = some (.d d) → ms[j]? = some (.im d)) ∧ (∀ s, as[j]? = some (.b s) → ∃ m, e[s]? = some (some m) ∧ ms[j]? = some m)
  | [], _, _, _ => ⟨fun d q => by simp at q, fun s q => by simp at q⟩
  | .d d0 :: r, ms, j, h => by
    obtain ⟨ms', h1, rfl⟩ := Option.map_eq_some_iff.mp h
    cases j with
    | zero => exact ⟨fun d q => by simp at q ⊢; exact q, fun s q => by simp at q⟩
    | succ j =>
      have := argM_get (j := j) h1
      simpa using this
  | .b s0 :: r, ms, j, h => by
    unfold argM at h
    split at h
    · rename_i m0 he
      obtain ⟨ms', h1, rfl⟩ := Option.map_eq_some_iff.mp h
      cases j with
      | zero => exact ⟨fun d q => by simp at q, fun s q => by simp at q; subst q; exact ⟨m0, he, by simp⟩⟩
      | succ j =>
        have := argM_get (j := j) h1
        simpa using this
    · cases h
theorem argM_len {e : Env} : ∀ {as : List AR} {ms : List M}, argM e as = some ms → ms.length = as.length
  | [], _, h => by cases h; rfl
  | .d d0 :: r, ms, h => by
    obtain ⟨ms', h1, rfl⟩ := Option.map_eq_some_iff.mp h
    rw [List.length_cons, List.length_cons, argM_len h1]
  | .b s0 :: r, ms, h => by
    unfold argM at h
    split at h
    · obtain ⟨ms', h1, rfl⟩ := Option.map_eq_some_iff.mp h
      rw [List.length_cons, List.length_cons, argM_len h1]
    · cases h
theorem rAR_get {K : PySem.W.Frag} {σ : L2.St} {F : Hp} : ∀ {xs : List V} {as : List AR} {j : Nat}, rAR K σ F xs as → (∀ d, as[j]? = some (.d d) → ∃ v, xs[j]? = some v ∧ Rp K F v d) ∧ (∀ s, as[j]? = some (.b s) → ∃ v, xs[j]? = some v ∧ σ[s]? = some (some v))
  | [], [], _, _ => ⟨fun d q => by simp at q, fun s q => by simp at q⟩
  | x :: xs, .d d0 :: as, j, h => by
    cases j with
    | zero => exact ⟨fun d q => by simp at q; subst q; exact ⟨x, rfl, h.1⟩, fun s q => by simp at q⟩
    | succ j =>
      have := rAR_get (j := j) h.2
      simpa using this
  | x :: xs, .b s0 :: as, j, h => by
    cases j with
    | zero => exact ⟨fun d q => by simp at q, fun s q => by simp at q; subst q; exact ⟨x, rfl, h.1⟩⟩
    | succ j =>
      have := rAR_get (j := j) h.2
      simpa using this
  | [], _ :: _, _, h => h.elim
  | _ :: _, [], _, h => h.elim
theorem rAR_len {K : PySem.W.Frag} {σ : L2.St} {F : Hp} : ∀ {xs : List V} {as : List AR}, rAR K σ F xs as → xs.length = as.length
  | [], [], _ => rfl
  | x :: xs, .d d0 :: as, h => by rw [List.length_cons, List.length_cons, rAR_len h.2]
  | x :: xs, .b s0 :: as, h => by rw [List.length_cons, List.length_cons, rAR_len h.2]
  | [], _ :: _, h => h.elim
  | _ :: _, [], h => h.elim
/-- the footprints of the arguments -/
def fpA (fp : Nat → List Addr) (as : List AR) : Nat → List Addr := fun j => match as[j]? with
  | some (.b s) => fp s
  | _ => []
theorem mem_fpA {fp : Nat → List Addr} {as : List AR} {j : Nat} {a : Addr} (h : a ∈ fpA fp as j) : ∃ s, as[j]? = some (.b s) ∧ a ∈ fp s := by
  unfold fpA at h
  split at h
  · exact ⟨_, by assumption, h⟩
  · cases h
theorem SS.args {K : PySem.W.Frag} {e : Env} {σ : L2.St} {F H : Hp} {fp : Nat → List Addr} {as : List AR} {ms : List M} {vs : List V} (S : SS K bv e σ F H fp) (nd : (slotsOf as).Nodup) (ha : argM e as = some ms) (r : rAR K σ F vs as) :
    SS K bv0 (ms.map some) (vs.map some) F H (fpA fp as) := by
  have h1 := argM_len ha
  have h2 := rAR_len r
  refine ⟨S.sub, fun j m h => ?_, fun j a h => ?_, fun j => ?_, fun j k a g1 g2 => ?_, fun j a h => ?_, fun i v h => (by cases h), by rw [List.length_map, List.length_map, h1, h2], S.tab⟩
  · rw [List.getElem?_map] at h
    obtain ⟨m1, hm, q⟩ := Option.map_eq_some_iff.mp h
    cases q
    have hj : j < as.length := by
      have := (List.getElem?_eq_some_iff.mp hm).1
      omega
    cases q : as[j] with
    | d d =>
      have q' : as[j]? = some (.d d) := by rw [List.getElem?_eq_getElem hj, q]
      have e1 := (argM_get (j := j) ha).1 d q'
      rw [hm] at e1
      cases e1
      obtain ⟨v, g1, g2⟩ := (rAR_get (j := j) r).1 d q'
      refine ⟨v, by rw [List.getElem?_map, g1]; rfl, ?_⟩
      unfold fpA
      rw [q']
      exact .im g2
    | b s =>
      have q' : as[j]? = some (.b s) := by rw [List.getElem?_eq_getElem hj, q]
      obtain ⟨m2, e1, e2⟩ := (argM_get (j := j) ha).2 s q'
      rw [hm] at e2
      cases e2
      obtain ⟨v, g1, g2⟩ := (rAR_get (j := j) r).2 s q'
      obtain ⟨u, g3, o⟩ := S.own s m e1
      rw [g2] at g3
      cases g3
      refine ⟨v, by rw [List.getElem?_map, g1]; rfl, ?_⟩
      unfold fpA
      rw [q']
      exact o
  · obtain ⟨s, q, _⟩ := mem_fpA h
    obtain ⟨m, _, q2⟩ := (argM_get (j := j) ha).2 s q
    exact ⟨m, by rw [List.getElem?_map, q2]; rfl⟩
  · unfold fpA
    split
    · exact S.nd _
    · exact List.nodup_nil
  · obtain ⟨s, q1, w1⟩ := mem_fpA g1
    obtain ⟨s', q2, w2⟩ := mem_fpA g2
    have := S.dj s s' a w1 w2
    subst this
    exact slots_inj nd q1 q2
  · obtain ⟨s, _, q⟩ := mem_fpA h
    exact S.fr s a q
open Classical in
/-- the footprints behind a call -/
noncomputable def fpC (fp : Nat → List Addr) (as : List AR) (fp' : Nat → List Addr) : Nat → List Addr := fun i => if h : ∃ j : Nat, as[j]? = some (AR.b i) then fp' h.choose else fp i
theorem fpC_in {fp fp' : Nat → List Addr} {as : List AR} {i j : Nat} (nd : (slotsOf as).Nodup) (h : as[j]? = some (.b i)) : fpC fp as fp' i = fp' j := by
  unfold fpC
  have hx : ∃ j : Nat, as[j]? = some (AR.b i) := ⟨j, h⟩
  rw [dif_pos hx, slots_inj nd hx.choose_spec h]
theorem fpC_out {fp fp' : Nat → List Addr} {as : List AR} {i : Nat} (h : i ∉ slotsOf as) : fpC fp as fp' i = fp i := by
  unfold fpC
  rw [dif_neg fun ⟨j, q⟩ => h (ix_slots q)]
/-- behind a call -/
theorem SS.after {K : PySem.W.Frag} {e : Env} {σ : L2.St} {F H F' H' : Hp} {fp fp' : Nat → List Addr} {as : List AR} {ms ms' : List M} {vs : List V} {P' : Addr → Prop} {fpr : List Addr} (S : SS K bv e σ F H fp) (nd : (slotsOf as).Nodup) (ha : argM e as = some ms) (r : rAR K σ F vs as)
    (hl : ms'.length = ms.length) (s : Stp F H (Pf (fpA fp as)) F' H' P') (S' : SS K bv0 (ms'.map some) (vs.map some) F' H' fp') (hP : ∀ a, Pf fp' a ∨ a ∈ fpr → P' a) (dj : ∀ a ∈ fpr, ¬ Pf fp' a) :
    SS K bv (putB e as ms') σ F' H' (fpC fp as fp') ∧ Stp F H (Pf fp) F' H' (fun a => Pf (fpC fp as fp') a ∨ a ∈ fpr) ∧ ∀ a ∈ fpr, ¬ Pf (fpC fp as fp') a := by
  have hal := argM_len ha
  have sub : ∀ a, Pf (fpA fp as) a → Pf fp a := fun a ⟨j, h⟩ => by
    obtain ⟨s, _, q⟩ := mem_fpA h
    exact ⟨s, q⟩
  have off : ∀ i a, i ∉ slotsOf as → a ∈ fp i → ¬ Pf (fpA fp as) a := fun i a hi h ⟨j, h'⟩ => by
    obtain ⟨s, q1, q2⟩ := mem_fpA h'
    have := S.dj i s a h q2
    subst this
    exact hi (ix_slots q1)
  have offP : ∀ i a, i ∉ slotsOf as → a ∈ fp i → ¬ P' a := fun i a hi h p => by
    rcases s.newP a p with z | z
    · exact off i a hi h z
    · obtain ⟨o, q⟩ := S.live h
      rw [q] at z
      cases z
  refine ⟨⟨S'.sub, fun i m h => ?_, fun i a h => ?_, fun i => ?_, fun i j a h1 h2 => ?_, fun i a h => ?_, S.bor, by rw [putB_len]; exact S.len, S'.tab⟩, ⟨s.ext, fun a o h n => s.keep a o h fun z => n (sub a z), s.live, s.tbl, fun a h => ?_, fun a h => ?_⟩, fun a ha' ⟨i, h⟩ => ?_⟩
  · by_cases hi : i ∈ slotsOf as
    · obtain ⟨j, hj⟩ := slots_ix hi
      obtain ⟨m0, e1, e2⟩ := (argM_get (j := j) ha).2 i hj
      have hji : j < ms'.length := by
        have := (List.getElem?_eq_some_iff.mp e2).1
        omega
      have e3 := putB_in (ms := ms') (List.getElem?_eq_some_iff.mp e1).1 nd hj (List.getElem?_eq_getElem hji)
      rw [e3] at h
      cases h
      obtain ⟨v, g1, o⟩ := S'.own j ms'[j] (by rw [List.getElem?_map, List.getElem?_eq_getElem hji]; rfl)
      obtain ⟨u, g2, g3⟩ := (rAR_get (j := j) r).2 i hj
      rw [List.getElem?_map, g2] at g1
      cases g1
      rw [fpC_in nd hj]
      exact ⟨_, g3, o⟩
    · rw [putB_out hi] at h
      obtain ⟨v, g1, o⟩ := S.own i m h
      rw [fpC_out hi]
      exact ⟨v, g1, o.mono s.ext fun a ha' u hu => s.keep a u hu (off i a hi ha') (.inl (S.fr i a ha')) (S.nx ha' hu).1⟩
  · by_cases hi : i ∈ slotsOf as
    · obtain ⟨j, hj⟩ := slots_ix hi
      obtain ⟨m0, e1, e2⟩ := (argM_get (j := j) ha).2 i hj
      have hji : j < ms'.length := by
        have := (List.getElem?_eq_some_iff.mp e2).1
        omega
      exact ⟨_, putB_in (ms := ms') (List.getElem?_eq_some_iff.mp e1).1 nd hj (List.getElem?_eq_getElem hji)⟩
    · rw [fpC_out hi] at h
      rw [putB_out hi]
      exact S.nil i a h
  · by_cases hi : i ∈ slotsOf as
    · obtain ⟨j, hj⟩ := slots_ix hi
      rw [fpC_in nd hj]
      exact S'.nd j
    · rw [fpC_out hi]
      exact S.nd i
  · by_cases hi : i ∈ slotsOf as
    · obtain ⟨k, hk⟩ := slots_ix hi
      rw [fpC_in nd hk] at h1
      by_cases hj : j ∈ slotsOf as
      · obtain ⟨k', hk'⟩ := slots_ix hj
        rw [fpC_in nd hk'] at h2
        have := S'.dj k k' a h1 h2
        subst this
        rw [hk] at hk'
        cases hk'
        rfl
      · rw [fpC_out hj] at h2
        exact absurd (hP a (.inl ⟨k, h1⟩)) (offP j a hj h2)
    · rw [fpC_out hi] at h1
      by_cases hj : j ∈ slotsOf as
      · obtain ⟨k', hk'⟩ := slots_ix hj
        rw [fpC_in nd hk'] at h2
        exact absurd (hP a (.inl ⟨k', h2⟩)) (offP i a hi h1)
      · rw [fpC_out hj] at h2
        exact S.dj i j a h1 h2
  · by_cases hi : i ∈ slotsOf as
    · obtain ⟨j, hj⟩ := slots_ix hi
      rw [fpC_in nd hj] at h
      exact S'.fr j a h
    · rw [fpC_out hi] at h
      cases q : F' a with
      | none => rfl
      | some o =>
        rcases s.newF a (by rw [q]; simp) with z | z | z
        · exact absurd (S.fr i a h) z
        · exact absurd z (off i a hi h)
        · obtain ⟨o', q'⟩ := S.live h
          obtain ⟨vs', e'⟩ := z _ q'
          rw [e'] at q'
          exact absurd q' (S.ntup h vs')
  · rcases s.newF a h with z | z | z
    · exact .inl z
    · exact .inr (.inl (sub a z))
    · exact .inr (.inr z)
  · have fromP : P' a → Pf fp a ∨ H a = none := fun p => (s.newP a p).imp (sub a) id
    rcases h with ⟨i, h⟩ | h
    · by_cases hi : i ∈ slotsOf as
      · obtain ⟨j, hj⟩ := slots_ix hi
        rw [fpC_in nd hj] at h
        exact fromP (hP a (.inl ⟨j, h⟩))
      · rw [fpC_out hi] at h
        exact .inl ⟨i, h⟩
    · exact fromP (hP a (.inr h))
  · by_cases hi : i ∈ slotsOf as
    · obtain ⟨j, hj⟩ := slots_ix hi
      rw [fpC_in nd hj] at h
      exact dj a ha' ⟨j, h⟩
    · rw [fpC_out hi] at h
      exact offP i a hi h (hP a (.inr ha'))
/-- what is done with the arguments -/
def callAt (Fs : List M → FOut) (as : List AR) : EM M := fun e => if (slotsOf as).Nodup then (match argM e as with
  | none => .no
  | some ms => match Fs ms with
    | .ok r ms' => if ms'.length = ms.length then .ok r (putB e as ms') else .no
    | _ => .no) else .no
theorem call_at {K : PySem.W.Frag} {Fs : List M → FOut} {σ : L2.St} {F1 H1 : Hp} {fp1 : Nat → List Addr} {e1 : Env} {Q : VK} {as : List AR} {vs : List V} (S1 : SS K bv e1 σ F1 H1 fp1) (r1 : rAR K σ F1 vs as) (q1 : AtG K W bv (rM K) (callAt Fs as) e1 σ F1 H1 fp1 Q) : spF K Fs vs H1 Q E0 := by
  unfold AtG callAt at q1
  by_cases nd : (slotsOf as).Nodup
  · rw [if_pos nd] at q1
    cases ha : argM e1 as with
    | none => rw [ha] at q1; exact q1.elim
    | some ms =>
      rw [ha] at q1
      dsimp only at q1
      refine ⟨ms, F1, fpA fp1 as, S1.args nd ha r1, ?_⟩
      cases hF : Fs ms with
      | no => rw [hF] at q1; exact q1
      | ex C fs ms' => rw [hF] at q1; exact q1.elim
      | ok r ms' =>
        rw [hF] at q1
        dsimp only at q1 ⊢
        by_cases hl : ms'.length = ms.length
        · rw [if_pos hl] at q1
          intro v F' H' fp' P' s' S' ⟨fpr, hP, o, ndr, dj, frr⟩
          obtain ⟨A1, A2, A3⟩ := S1.after nd ha r1 hl s' S' hP dj
          exact q1 v F' H' _ _ A2 A1 ⟨fpr, rfl, o, ndr, A3, frr⟩
        · rw [if_neg hl] at q1
          exact q1.elim
  · rw [if_neg nd] at q1
    exact q1.elim
/-- the call's reading -/
theorem call_of {K : PySem.W.Frag} {Fs : List M → FOut} {σ : L2.St} {H : Hp} {Q : VK} (t : tM K W bv (callM Fs fr) σ H Q) : tR K W bv fr σ H fun vs H1 => spF K Fs vs H1 Q E0 :=
  tG.mono (tG.bnd (r := rAR K σ) t) fun vs H1 ⟨as, e1, F1, fp1, S1, r1, q1⟩ => call_at S1 r1 q1
theorem dm_call {Fs : List M → FOut} {k : Nat} {f : Addr} {fd : FuncData} {ps : List Str} {x : Str} {p : Pos} (G : FnG X.prog X.w X.K X.mg X.base k f fd ps (spF X.K Fs)) (hgd : X.A.guards = some []) (hr : Room k X.A) (hm : X.mg x = some (.ref f)) (hk : PySem.W.keepIn X.K (.ref f) = true) (hb : Binds X.K fd ps [])
    (ha : DR X W bv (a :: es) fr) (hg : Gl X x := by rfl) (hdb : (x == ("__debug__" : Str)) = false := by decide) (he : starEach (a :: es) X.env = (false, eval a X.env) :: starEach es X.env := by rfl) (hpl : (backTo pos (starEach es X.env)).any (·.1) = false := by rfl) :
    DM X W bv (.Call (.Name x p) (a :: es) [] pos) (callM Fs fr) :=
  pe_imp (pe_callG G hgd hr hg hm hk hb ha hdb he hpl) fun σ H Q t => call_of t
/-- an owned result, from then on data -/
def frzE (f : EM M) : EM D := bnd f fun m => lif m.toD
theorem de_ofM {e : Expr} {f : EM M} (h : DM X W bv e f) : DE X W bv e (frzE f) :=
  pe_imp h fun σ H Q ⟨e, F, fp, S, q⟩ => by
    refine ⟨e, F, fp, S, ?_⟩
    unfold AtG frzE bnd at q
    unfold AtG
    cases z : f e with
    | no => rw [z] at q; exact q
    | ex C fs e' => rw [z] at q; exact q
    | ok m e' =>
      rw [z] at q
      intro x F' H' fp' P' s' S' ⟨fpr, hP, o, nd, dj, fr'⟩
      dsimp only at q
      cases hd : m.toD with
      | none => rw [hd] at q; exact q.elim
      | some d =>
        rw [hd] at q
        have sF : Sub F' (ov H' F' fpr) := Sub.ov fr'
        refine q x (ov H' F' fpr) H' fp' (Pf fp') ⟨s'.ext.trans sF, s'.keep, s'.live, s'.tbl, fun a h => ?_, fun a h => s'.newP a (by rw [hP]; exact .inl h)⟩ (S'.heap sF S'.sub.of_ov (fun _ _ _ _ h => h) fun i a h => ?_) ⟨rfl, o.frozen fr' hd⟩
        · by_cases n : a ∈ fpr
          · exact .inr ((s'.newP a (by rw [hP]; exact .inr n)).imp id nw_of)
          · rw [ov_out n] at h
            exact s'.newF a h
        · rw [ov_out fun n => dj a n ⟨i, h⟩]
          exact S'.fr i a h
theorem de_call {Fs : List M → FOut} {k : Nat} {f : Addr} {fd : FuncData} {ps : List Str} {x : Str} {p : Pos} (G : FnG X.prog X.w X.K X.mg X.base k f fd ps (spF X.K Fs)) (hgd : X.A.guards = some []) (hr : Room k X.A) (hm : X.mg x = some (.ref f)) (hk : PySem.W.keepIn X.K (.ref f) = true) (hb : Binds X.K fd ps [])
    (ha : DR X W bv (a :: es) fr) (hg : Gl X x := by rfl) (hdb : (x == ("__debug__" : Str)) = false := by decide) (he : starEach (a :: es) X.env = (false, eval a X.env) :: starEach es X.env := by rfl) (hpl : (backTo pos (starEach es X.env)).any (·.1) = false := by rfl) :
    DE X W bv (.Call (.Name x p) (a :: es) [] pos) (callD Fs fr) := de_ofM (dm_call G hgd hr hm hk hb ha hg hdb he hpl)
end
end FD
/-! FD: comprehensions. -/
namespace FD
variable [TabT]
open PySem L2
def wipeE (e : Env) : List Nat → Env
  | [] => e
  | v :: vs => (wipeE e vs).set v none
def imAt (e : Env) (v : Nat) : Bool := match e[v]? with
  | some (some m) => isIm m
  | _ => true
/-- what the slots vs held is held again -/
def backE (e1 e : Env) : List Nat → Env
  | [] => e1
  | v :: vs => match e[v]? with
    | some o => (backE e1 e vs).set v o
    | none => backE e1 e vs
theorem wipeE_len {e : Env} : ∀ {vs : List Nat}, (wipeE e vs).length = e.length
  | [] => rfl
  | v :: vs => by unfold wipeE; rw [List.length_set, wipeE_len]
theorem wipeE_out {e : Env} {i : Nat} : ∀ {vs : List Nat}, i ∉ vs → (wipeE e vs)[i]? = e[i]?
  | [], _ => rfl
  | v :: vs, h => by
    rw [List.mem_cons, not_or] at h
    unfold wipeE
    rw [List.getElem?_set_ne (Ne.symm h.1), wipeE_out h.2]
theorem wipeE_in {e : Env} {i : Nat} {m : M} : ∀ {vs : List Nat}, i ∈ vs → (wipeE e vs)[i]? ≠ some (some m)
  | v :: vs, h => by
    unfold wipeE
    by_cases n : v = i
    · subst n
      rw [List.getElem?_set]
      simp only [if_true]
      split <;> simp
    · rw [List.getElem?_set_ne n]
      exact wipeE_in (by
        rcases List.mem_cons.mp h with q | q
        · exact absurd q.symm n
        · exact q)
theorem backE_len {e1 e : Env} : ∀ {vs : List Nat}, (backE e1 e vs).length = e1.length
  | [] => rfl
  | v :: vs => by
    unfold backE
    split
    · rw [List.length_set, backE_len]
    · exact backE_len
theorem backE_out {e1 e : Env} {i : Nat} : ∀ {vs : List Nat}, i ∉ vs → (backE e1 e vs)[i]? = e1[i]?
  | [], _ => rfl
  | v :: vs, h => by
    rw [List.mem_cons, not_or] at h
    unfold backE
    split
    · rw [List.getElem?_set_ne (Ne.symm h.1), backE_out h.2]
    · exact backE_out h.2
theorem backE_in {e1 e : Env} {i : Nat} (hl : e1.length = e.length) : ∀ {vs : List Nat}, i ∈ vs → (backE e1 e vs)[i]? = e[i]?
  | v :: vs, h => by
    unfold backE
    by_cases n : v = i
    · subst n
      split
      · rename_i o ho
        have hv := (List.getElem?_eq_some_iff.mp ho).1
        rw [List.getElem?_set_self (by rw [backE_len]; omega), ho]
      · rename_i ho
        rw [ho, List.getElem?_eq_none_iff, backE_len]
        have := List.getElem?_eq_none_iff.mp ho
        omega
    · have h' : i ∈ vs := by
        rcases List.mem_cons.mp h with q | q
        · exact absurd q.symm n
        · exact q
      split
      · rw [List.getElem?_set_ne n]
        exact backE_in hl h'
      · exact backE_in hl h'
section
variable {K : PySem.W.Frag} {bv : Nat → Option V} {e : Env} {σ : L2.St} {F H : Hp} {fp : Nat → List Addr}
theorem SS.nilAt (S : SS K bv e σ F H fp) {v : Nat} (h : imAt e v = true) : fp v = [] := by
  cases q : fp v with
  | nil => rfl
  | cons a l =>
    obtain ⟨m, hm⟩ := S.nil v a (by rw [q]; exact List.mem_cons_self)
    unfold imAt at h
    rw [hm] at h
    dsimp only at h
    obtain ⟨u, _, o⟩ := S.own v m hm
    cases m with
    | im d =>
      rw [q] at o
      cases o
    | _ => cases h
theorem SS.wipe {vs : List Nat} (S : SS K bv e σ F H fp) (h : vs.all (imAt e) = true) (hb : vs.all (fun i => (bv i).isNone) = true) : SS K bv (wipeE e vs) (L2.wipe σ vs) F H fp := by
  rw [List.all_eq_true] at h hb
  refine ⟨S.sub, fun i m q => ?_, fun i a q => ?_, S.nd, S.dj, S.fr, fun i v q => ?_, by rw [wipeE_len, wipe_length]; exact S.len, S.tab⟩
  · by_cases hi : i ∈ vs
    · exact absurd q (wipeE_in hi)
    · rw [wipeE_out hi] at q
      rw [wipe_out hi]
      exact S.own i m q
  · by_cases hi : i ∈ vs
    · rw [S.nilAt (h i hi)] at q
      cases q
    · rw [wipeE_out hi]
      exact S.nil i a q
  · by_cases hi : i ∈ vs
    · have := hb i hi
      rw [q] at this
      cases this
    · rw [wipe_out hi]
      exact S.bor i v q
/-- behind a block: its own slots hold what they held -/
theorem SS.unwipe {vs : List Nat} {e1 : Env} {F' H' : Hp} {fp' : Nat → List Addr} (S : SS K bv e σ F H fp) (h : vs.all (imAt e) = true) (s : Sub F F') (S' : SS K bv e1 (L2.wipe σ vs) F' H' fp') (hw : vs.all (imAt e1) = true) : SS K bv (backE e1 e vs) σ F' H' fp' := by
  have hl : e1.length = e.length := by rw [S'.len, wipe_length]; exact S.len.symm
  rw [List.all_eq_true] at h hw
  refine ⟨S'.sub, fun i m q => ?_, fun i a q => ?_, S'.nd, S'.dj, S'.fr, S.bor, by rw [backE_len, hl]; exact S.len, S'.tab⟩
  · by_cases hi : i ∈ vs
    · rw [backE_in hl hi] at q
      obtain ⟨v, hv, o⟩ := S.own i m q
      have him := h i hi
      unfold imAt at him
      rw [q] at him
      dsimp only at him
      cases m with
      | im d =>
        generalize fp i = l at o
        cases o with
        | im r =>
          rw [S'.nilAt (hw i hi)]
          exact ⟨v, hv, .im (r.mono s)⟩
      | _ => cases him
    · rw [backE_out hi] at q
      obtain ⟨v, hv, o⟩ := S'.own i m q
      rw [wipe_out hi] at hv
      exact ⟨v, hv, o⟩
  · by_cases hi : i ∈ vs
    · rw [S'.nilAt (hw i hi)] at q
      cases q
    · rw [backE_out hi]
      exact S'.nil i a q
end
theorem wipe_off {σ σ' : L2.St} {l vs : List Nat} (o : Off l σ σ') (hs : ∀ i ∈ l, i ∈ vs) : wipe σ' vs = wipe σ vs := by
  have key : ∀ (τ : L2.St) (us : List Nat) (i : Nat), i ∈ us → (wipe τ us)[i]? = if i < τ.length then some none else none := by
    intro τ us
    induction us with
    | nil => intro i h; cases h
    | cons v us ih =>
      intro i h
      unfold wipe
      by_cases n : v = i
      · subst n
        rw [List.getElem?_set]
        simp only [if_true, wipe_length]
      · rw [List.getElem?_set_ne n]
        exact ih i (by
          rcases List.mem_cons.mp h with q | q
          · exact absurd q.symm n
          · exact q)
  apply List.ext_getElem?
  intro i
  by_cases hi : i ∈ vs
  · rw [key _ _ _ hi, key _ _ _ hi, o.1]
  · rw [wipe_out hi, wipe_out hi, o.2 i fun q => hi (hs i q)]
/-- the items that a comprehension makes, one turn after another -/
def compL (vs : List Nat) (t : D → EM Unit) (tt : EM Bool) (te : EM D) : List D → EM (List D)
  | [] => ret []
  | d :: ds => fun e => match t d e with
    | .ok _ e1 => match tt e1 with
      | .ok true e2 => match te e2 with
        | .ok y e3 => if vs.all (imAt e3) then (match compL vs t tt te ds (wipeE e3 vs) with
          | .ok ys e4 => .ok (y :: ys) e4
          | _ => .no) else .no
        | _ => .no
      | .ok false e2 => if vs.all (imAt e2) then compL vs t tt te ds (wipeE e2 vs) else .no
      | _ => .no
    | _ => .no
def compE (vs : List Nat) (fi : EM (List D)) (t : D → EM Unit) (tt : EM Bool) (te : EM D) : EM D := bnd fi fun ds e => if vs.all (imAt e) then (match compL vs t tt te ds (wipeE e vs) with
  | .ok ys e1 => if few ys.length && vs.all (imAt e1) then .ok (.list ys) (backE e1 e vs) else .no
  | _ => .no) else .no
section
variable {K : PySem.W.Frag} {W : WX} {bv : Nat → Option V} {σ : L2.St}
/-- the state of a comprehension under way: A the new list's address -/
structure CS (K : PySem.W.Frag) (bv : Nat → Option V) (e : Env) (σ : L2.St) (F H : Hp) (fp : Nat → List Addr) (A : Addr) (ys : List D) : Prop where
  ss : SS K bv e σ F H fp
  li : ∃ acc, H A = some (.lst acc) ∧ RpL K F acc ys
  nf : F A = none
  np : ¬ Pf fp A
theorem CS.step {e e' : Env} {σ' : L2.St} {F H F' H' : Hp} {fp fp' : Nat → List Addr} {A : Addr} {ys : List D} (C : CS K bv e σ F H fp A ys) (s : Stp F H (Pf fp) F' H' (Pf fp')) (S' : SS K bv e' σ' F' H' fp') : CS K bv e' σ' F' H' fp' A ys := by
  obtain ⟨acc, h1, h2⟩ := C.li
  refine ⟨S', ⟨acc, s.keep A _ h1 C.np (.inl C.nf) (nt_lst _), h2.mono s.ext⟩, ?_, fun z => ?_⟩
  · cases q : F' A with
    | none => rfl
    | some o =>
      rcases s.newF A (by rw [q]; simp) with z | z | z
      · exact absurd C.nf z
      · exact absurd z C.np
      · obtain ⟨_, z⟩ := z _ h1; exact (fx_lst z).elim
  · rcases s.newP A z with z | z
    · exact C.np z
    · rw [h1] at z; cases z
/-- one more item -/
theorem CS.app {e : Env} {F H : Hp} {fp : Nat → List Addr} {A : Addr} {ys : List D} {acc : List V} {v : V} {y : D} (C : CS K bv e σ F H fp A ys) (h1 : H A = some (.lst acc)) (h2 : RpL K F acc ys) (r : Rp K F v y) : CS K bv e σ F (upd H A (.lst (acc ++ [v]))) fp A (ys ++ [y]) where
  ss := C.ss.heap (Sub.refl F) (C.ss.sub.mut C.nf) (fun i a o h q => by
    rw [upd_ne fun z => C.np (by rw [← z]; exact ⟨i, h⟩)]
    exact q) C.ss.fr (tabs_upd C.ss.tab h1 (fun _ z => by cases z) (fun _ z => by cases z))
  li := ⟨_, upd_same, h2.append (.cons r .nil)⟩
  nf := C.nf
  np := C.np
theorem Stp.grow {F H F' H' : Hp} {P P' : Addr → Prop} {A : Addr} {o : HO} (s : Stp F H P F' H' P') (h : H A = none) : Stp F H P F' (upd H' A o) P' where
  ext := s.ext
  keep := fun a u q n f t => by
    rw [upd_ne (ne_of_none q h)]
    exact s.keep a u q n f t
  tbl := fun a ps q => by
    rw [upd_ne (ne_of_none q h)]
    exact s.tbl a ps q
  live := fun a q => by
    by_cases n : a = A
    · subst n; exact h
    · rw [upd_ne n] at q; exact s.live a q
  newF := s.newF
  newP := s.newP
/-- the end: the list is data -/
theorem CS.done {e : Env} {F H F0 H0 : Hp} {fp fp0 : Nat → List Addr} {A : Addr} {ys : List D} (C : CS K bv e σ F H fp A ys) (s : Stp F0 H0 (Pf fp0) F H (Pf fp)) (h0 : H0 A = none) :
    ∃ F', Stp F0 H0 (Pf fp0) F' H (Pf fp) ∧ SS K bv e σ F' H fp ∧ Rp K F' (.ref A) (.list ys) := by
  obtain ⟨acc, h1, h2⟩ := C.li
  have sF : Sub F (upd F A (.lst acc)) := Sub.new C.nf
  have sH : Sub (upd F A (.lst acc)) H := by
    refine ⟨fun a u t r => ?_, fun a u x q => ?_, fun a q => ?_⟩
    · by_cases n : a = A
      · subst n
        exact rd_at (by rw [upd_same, h1]) r
      · exact C.ss.sub.rdN a u t (rd_at (upd_ne n).symm r)
    · by_cases n : a = A
      · subst n
        rw [upd_same] at q
        rw [h1]; exact q
      · rw [upd_ne n] at q
        exact C.ss.sub.ex a u x q
    · by_cases n : a = A
      · subst n; rw [h1] at q; cases q
      · rw [upd_ne n]; exact C.ss.sub.nn a q
  refine ⟨upd F A (.lst acc), ⟨s.ext.trans sF, s.keep, s.live, s.tbl, fun a q => ?_, s.newP⟩, C.ss.heap sF sH (fun _ _ _ _ q => q) (fun i a q => ?_) C.ss.tab, .lst (.inl (.inl upd_same)) (h2.mono sF)⟩
  · by_cases n : a = A
    · subst n; exact .inr (.inr (nw_of h0))
    · rw [upd_ne n] at q; exact s.newF a q
  · rw [upd_ne fun z => C.np (by rw [← z]; exact ⟨i, q⟩)]
    exact C.ss.fr i a q
/-- one turn -/
theorem turn_of {vs l : List Nat} {t : D → EM Unit} {tt : EM Bool} {te : EM D} {e ef : Env} {F H : Hp} {fp : Nat → List Addr} {A : Addr} {d : D} {ds ys zs : List D} {x : V} {Nx : Hp → Prop} (hl : ∀ i ∈ l, i ∈ vs) (hb : vs.all (fun i => (bv i).isNone) = true) (hz : ys.length + zs.length ≤ 1000000)
    (C : CS K bv e (wipe σ vs) F H fp A ys) (r : Rp K F x d) (q : compL vs t tt te (d :: ds) e = .ok zs ef)
    (hN : ∀ e' F' H' fp' ys' zs', (∃ H1, Stp F H (Pf fp) F' H1 (Pf fp') ∧ (H' = H1 ∨ ∃ o, H' = upd H1 A o)) → CS K bv e' (wipe σ vs) F' H' fp' A ys' → compL vs t tt te ds e' = .ok zs' ef → ys' ++ zs' = ys ++ zs → Nx H') :
    tTg K bv l t x (wipe σ vs) H fun σ2 H2 => wipe σ2 vs = wipe σ vs ∧ tT K W0 bv tt σ2 H2 fun b H3 =>
      if b = true then tE K W0 bv te σ2 H3 fun y H4 => ∃ acc, H4 A = some (.lst acc) ∧ acc.length < sizeLine ∧ Nx (upd H4 A (.lst (acc ++ [y]))) else Nx H3 := by
  refine ⟨e, F, fp, d, C.ss, r, ?_⟩
  simp only [compL] at q
  cases z1 : t d e with
  | no => rw [z1] at q; cases q
  | ex _ _ _ => rw [z1] at q; cases q
  | ok _ e1 =>
    rw [z1] at q
    dsimp only at q ⊢
    intro σ2 F2 H2 fp2 o2 s2 S2
    have w2 := wipe_off (vs := vs) o2 hl
    have ww : wipe (wipe σ vs) vs = wipe σ vs := wipe_off ⟨wipe_length σ vs, fun j h => wipe_out h⟩ (l := vs) fun _ h => h
    rw [ww] at w2
    refine ⟨w2, e1, F2, fp2, S2, ?_⟩
    unfold AtG
    cases z2 : tt e1 with
    | no => rw [z2] at q; cases q
    | ex _ _ _ => rw [z2] at q; cases q
    | ok b e2 =>
      rw [z2] at q
      intro b' F3 H3 fp3 P3 s3 S3 hb3
      obtain ⟨rfl, hb3⟩ := hb3
      cases (show b' = b from hb3)
      have s23 := s2.trans s3
      cases b with
      | false =>
        rw [if_neg Bool.false_ne_true]
        dsimp only at q
        split at q
        · rename_i hw
          have S3' := S3.wipe hw hb
          rw [w2] at S3'
          exact hN _ F3 H3 fp3 ys zs ⟨H3, s23, .inl rfl⟩ (C.step s23 S3') q rfl
        · cases q
      | true =>
        rw [if_pos rfl]
        dsimp only at q
        refine ⟨e2, F3, fp3, S3, ?_⟩
        unfold AtG
        cases z3 : te e2 with
        | no => rw [z3] at q; cases q
        | ex _ _ _ => rw [z3] at q; cases q
        | ok y e3 =>
          rw [z3] at q
          intro v F4 H4 fp4 P4 s4 S4 r4
          obtain ⟨rfl, r4⟩ := r4
          dsimp only at q
          split at q
          · rename_i hw
            cases z4 : compL vs t tt te ds (wipeE e3 vs) with
            | no => rw [z4] at q; cases q
            | ex _ _ _ => rw [z4] at q; cases q
            | ok zs' e4 =>
              rw [z4] at q
              cases q
              have s24 := s23.trans s4
              have S4' := S4.wipe hw hb
              rw [w2] at S4'
              have C4 := C.step s24 S4'
              obtain ⟨acc, h1, h2⟩ := C4.li
              refine ⟨acc, h1, ?_, ?_⟩
              · rw [h2.length]
                refine Nat.lt_of_le_of_lt (m := 1000000) ?_ (by decide)
                rw [List.length_cons] at hz
                omega
              · exact hN _ F4 _ fp4 (ys ++ [y]) zs' ⟨H4, s24, .inr ⟨_, rfl⟩⟩ (C4.app h1 h2 r4) z4 (by simp)
          · cases q
theorem comp_of {vs l : List Nat} {fi : EM (List D)} {t : D → EM Unit} {tt : EM Bool} {te : EM D} {H : Hp} {Q : VK} (hl : ∀ i ∈ l, i ∈ vs) (hb : vs.all (fun i => (bv i).isNone) = true)
    (h : tE K W bv (compE vs fi t tt te) σ H Q) : tLc (tI K W bv fi) (tTg K bv l t) (tT K W0 bv tt) (tE K W0 bv te) vs σ H Q := by
  obtain ⟨e, F, fp, S, q⟩ := h
  refine ⟨e, F, fp, S, ?_⟩
  unfold AtG compE bnd at q
  cases z : fi e with
  | no => rw [z] at q; exact q
  | ex C fs e' => rw [z] at q; exact q
  | ok ds e1 =>
    rw [z] at q
    intro J F1 H1 fp1 s1 S1 wk A hA
    dsimp only at q
    by_cases hw : vs.all (imAt e1) = true
    · rw [if_pos hw] at q
      cases z2 : compL vs t tt te ds (wipeE e1 vs) with
      | no => rw [z2] at q; exact q.elim
      | ex _ _ _ => rw [z2] at q; exact q.elim
      | ok zs ef =>
        rw [z2] at q
        dsimp only at q
        by_cases hfew : (few zs.length && vs.all (imAt ef)) = true
        · rw [if_pos hfew] at q
          rw [Bool.and_eq_true] at hfew
          have hz : zs.length ≤ 1000000 := of_decide_eq_true hfew.1
          have S1' := S1.wipe hw hb
          have fA : F1 A = none := S1.sub.non hA
          have pA : ¬ Pf fp1 A := fun ⟨i, h⟩ => by
            obtain ⟨o, ho⟩ := S1.live h
            rw [hA] at ho
            cases ho
          have C0 : CS K bv (wipeE e1 vs) (wipe σ vs) F1 (upd H1 A (.lst [])) fp1 A [] := by
            refine ⟨S1'.heap (Sub.refl F1) (S1.sub.mut fA) (fun i a o h q => ?_) S1.fr, ⟨[], upd_same, .nil⟩, fA, pA⟩
            rw [upd_ne (ne_of_none q hA)]
            exact q
          refine ⟨fun i m H' => m = ds.length - i ∧ i ≤ ds.length ∧ ∃ e' F' fp' ys zs', Stp F1 H1 (Pf fp1) F' H' (Pf fp') ∧ CS K bv e' (wipe σ vs) F' H' fp' A ys ∧ compL vs t tt te (ds.drop i) e' = .ok zs' ef ∧ ys ++ zs' = zs, ⟨ds.length, rfl, Nat.zero_le _, wipeE e1 vs, F1, fp1, [], zs, (Stp.refl _ _ _).grow hA, C0, z2, rfl⟩, ?_⟩
          rintro i m H' ⟨rfl, hi, e', F', fp', ys, zs', s', C', q', hyz⟩
          obtain ⟨go, stop⟩ := wk F' H' i s'.ext C'.ss.sub
          by_cases hlt : i < ds.length
          · refine .inr ⟨(go ds[i] (List.getElem?_eq_getElem hlt)).1, _, fun H2 h2 => ⟨ds.length - (i + 1), by omega, h2⟩, fun x H2 y => ?_⟩
            obtain ⟨F2, gr, r2⟩ := (go ds[i] (List.getElem?_eq_getElem hlt)).2 x H2 y
            have s2 : Stp F' H' (Pf fp') F2 H2 (Pf fp') := gr.stp C'.ss.sub
            have C2 := C'.step s2 (gr.ss C'.ss)
            rw [List.drop_eq_getElem_cons hlt] at q'
            refine turn_of hl hb (by rw [← hyz, List.length_append] at hz; exact hz) C2 r2 q' fun e3 F3 H3 fp3 ys3 zs3 ⟨H4, s4, h4⟩ C3 q3 h3 => ?_
            refine ⟨rfl, hlt, e3, F3, fp3, ys3, zs3, ?_, C3, q3, h3.trans hyz⟩
            have s5 := (s'.trans s2).trans s4
            rcases h4 with rfl | ⟨o, rfl⟩
            · exact s5
            · exact s5.grow hA
          · have ei : i = ds.length := by omega
            subst ei
            rw [List.drop_length] at q'
            cases q'
            rw [List.append_nil] at hyz
            subst hyz
            obtain ⟨F2, s2, S2, r2⟩ := C'.done s' hA
            exact .inl ⟨stop (Nat.le_refl _) (Nat.le_refl _), q _ F2 H' fp' (Pf fp') (s1.trans s2) (S1.unwipe hw s2.ext S2 hfew.2) ⟨rfl, r2⟩⟩
        · rw [if_neg hfew] at q
          exact q.elim
    · rw [if_neg hw] at q
      exact q.elim
end
section
variable {X : Cx} {W : WX} {bv : Nat → Option V} {pos : Pos}
abbrev DTs (X : Cx) (W : WX) (bv : Nat → Option V) (es : List Expr) (f : EM Bool) : Prop := PTs X es (tT X.K W bv f)
theorem pts_imp {X : Cx} {e : List Expr} {t t' : TT} (h : PTs X e t) (w : ∀ σ H Q, t' σ H Q → t σ H Q) : PTs X e t' := ⟨fun pins s σ H Q I q => h.run pins s σ H Q I (w σ H Q q)⟩
theorem dts_nil : DTs X W bv [] (ret true) := pts_imp pts_nil fun σ H Q ⟨e, F, fp, S, q⟩ => AtG.here (r := rB) S q rfl
theorem dts_one {c : Expr} {f : EM Bool} (h : DT X W bv c f) : DTs X W bv [c] f := pts_one h
theorem de_comp {elt tg iter : Expr} {ifs : List Expr} {scope : Scope} (own : List (Str × Nat)) {l : List Nat} {fi : EM (List D)} {t : D → EM Unit} {tt : EM Bool} {te : EM D} (hN : X.N.Nodup) (hi : DI X W bv tg iter fi) (ok : BlkOk X.N X.env.scope scope own)
    (hg : ∀ (s : Shared) (H : Hp) (C : Addr) (cl : List (Str × Addr)) (fp : List Addr), DG (X.blk s H scope (compEnvC scope cl C X.env) fp) bv tg l t) (ht : ∀ (s : Shared) (H : Hp) (C : Addr) (cl : List (Str × Addr)) (fp : List Addr), DTs (X.blk s H scope (compEnvC scope cl C X.env) fp) W0 bv ifs tt)
    (he : ∀ (s : Shared) (H : Hp) (C : Addr) (cl : List (Str × Addr)) (fp : List Addr), DE (X.blk s H scope (compEnvC scope cl C X.env) fp) W0 bv elt te) (hl : l.all ((own.map (·.2)).contains ·) = true := by rfl) (hb : (own.map (·.2)).all (fun i => (bv i).isNone) = true := by rfl)
    (hc : X.calm = true := by rfl) (hs : ∀ x, foldedSetIterable iter X.env x = pure x := by intro _; rfl) :
    DE X W bv (.ListComp elt [⟨tg, iter, ifs, 0⟩] scope pos) (compE (own.map (·.2)) fi t tt te) :=
  pe_imp (pe_lc hc hN hi ok hg ht he hs) fun σ H Q h => comp_of (fun i hi => by
    rw [List.all_eq_true] at hl
    exact List.contains_iff_mem.mp (hl i hi)) hb h
theorem ds_setLc (i : Nat) {y : Str} {py : Pos} {elt tg iter : Expr} {ifs : List Expr} {scope : Scope} (own : List (Str × Nat)) {l : List Nat} {spos : Pos} {fi : EM (List D)} {t : D → EM Unit} {tt : EM Bool} {te : EM D} (hN : X.N.Nodup) (hi : DI X W bv tg iter fi) (ok : BlkOk X.N X.env.scope scope own)
    (hg : ∀ (s : Shared) (H : Hp) (C : Addr) (cl : List (Str × Addr)) (fp : List Addr), DG (X.blk s H scope (compEnvC scope cl C X.env) fp) bv tg l t) (ht : ∀ (s : Shared) (H : Hp) (C : Addr) (cl : List (Str × Addr)) (fp : List Addr), DTs (X.blk s H scope (compEnvC scope cl C X.env) fp) W0 bv ifs tt)
    (he : ∀ (s : Shared) (H : Hp) (C : Addr) (cl : List (Str × Addr)) (fp : List Addr), DE (X.blk s H scope (compEnvC scope cl C X.env) fp) W0 bv elt te)
    (hsw : swapsWith (.ListComp elt [⟨tg, iter, ifs, 0⟩] scope pos) (some (.Name y py)) spos.line X.env = pure true)
    (hy : X.N[i]? = some y := by rfl) (hyl : X.env.scope.names.lookup y = some .local := by rfl) (hbi : bv i = none := by rfl)
    (hl : l.all ((own.map (·.2)).contains ·) = true := by rfl) (hb : (own.map (·.2)).all (fun i => (bv i).isNone) = true := by rfl) (hc : X.calm = true := by rfl) (hs : ∀ x, foldedSetIterable iter X.env x = pure x := by intro _; rfl) :
    DS X W bv (.Assign [.Name y py] (.ListComp elt [⟨tg, iter, ifs, 0⟩] scope pos) spos) (setS i (compE (own.map (·.2)) fi t tt te)) :=
  ps_imp (ps_setLc hc hN hy hyl hsw hi ok hg ht he hs) fun D σ H ⟨e, F, fp, S, q⟩ => comp_of (fun i hi => by
    rw [List.all_eq_true] at hl
    exact List.contains_iff_mem.mp (hl i hi)) hb (tG.mono (AtS.bnd' (r := rD X.K) S q) fun v H1 ⟨d, e1, F1, fp1, _, _, S1, r1, q1⟩ => stoM_at hbi (Stp.refl _ _ _) S1 (rM_im r1) q1)
end
end FD
/-! FD: comprehensions with two fors. -/
namespace FD
variable [TabT]
open PySem L2
def compL2 (vs vs1 : List Nat) (t : D → EM Unit) (tt : EM Bool) (fi1 : EM (List D)) (t1 : D → EM Unit) (tt1 : EM Bool) (te : EM D) : List D → EM (List D)
  | [] => ret []
  | d :: ds => fun e => match t d e with
    | .ok _ e1 => match tt e1 with
      | .ok true e2 => match fi1 e2 with
        | .ok ds1 e3 => if vs1.all (imAt e3) then (match compL vs1 t1 tt1 te ds1 (wipeE e3 vs1) with
          | .ok ys e4 => if vs.all (imAt e4) then (match compL2 vs vs1 t tt fi1 t1 tt1 te ds (wipeE e4 vs) with
            | .ok zs e5 => .ok (ys ++ zs) e5
            | _ => .no) else .no
          | _ => .no) else .no
        | _ => .no
      | .ok false e2 => if vs.all (imAt e2) then compL2 vs vs1 t tt fi1 t1 tt1 te ds (wipeE e2 vs) else .no
      | _ => .no
    | _ => .no
def compE2 (vs vs1 : List Nat) (fi : EM (List D)) (t : D → EM Unit) (tt : EM Bool) (fi1 : EM (List D)) (t1 : D → EM Unit) (tt1 : EM Bool) (te : EM D) : EM D := bnd fi fun ds e => if vs.all (imAt e) then (match compL2 vs vs1 t tt fi1 t1 tt1 te ds (wipeE e vs) with
  | .ok ys e1 => if few ys.length && vs.all (imAt e1) then .ok (.list ys) (backE e1 e vs) else .no
  | _ => .no) else .no
section
variable {K : PySem.W.Frag} {W : WX} {bv : Nat → Option V} {σ : L2.St}
/-- the inner loop of a comprehension, from where it starts -/
theorem inner_of {vs1 l1 : List Nat} {t1 : D → EM Unit} {tt1 : EM Bool} {te : EM D} {e ef : Env} {F H F0 H0 : Hp} {fp fp0 : Nat → List Addr} {A : Addr} {ds ys zs : List D} {J : It} {Nx : Hp → Prop} (hl : ∀ i ∈ l1, i ∈ vs1) (hb : vs1.all (fun i => (bv i).isNone) = true) (hz : ys.length + zs.length ≤ 1000000)
    (h0 : H0 A = none) (s0 : Stp F0 H0 (Pf fp0) F H (Pf fp)) (C : CS K bv e (wipe σ vs1) F H fp A ys) (wk : WalksD K J F ds) (q : compL vs1 t1 tt1 te ds e = .ok zs ef)
    (hN : ∀ F' H' fp', Stp F0 H0 (Pf fp0) F' H' (Pf fp') → Sub F F' → CS K bv ef (wipe σ vs1) F' H' fp' A (ys ++ zs) → Nx H') :
    ∃ W1 : Nat → Nat → Hp → Prop, (∃ m, W1 0 m H) ∧ ∀ j k H, W1 j k H →
      (J.stop j H ∧ Nx H) ∨ (J.go j H ∧ ∃ Nx1 : Hp → Prop, (∀ H', Nx1 H' → ∃ k', k' < k ∧ W1 (j + 1) k' H') ∧ ∀ x H', J.yld j H x H' → tTg K bv l1 t1 x (wipe σ vs1) H' fun σ3 H5 => wipe σ3 vs1 = wipe σ vs1 ∧ tT K W0 bv tt1 σ3 H5 fun b H6 =>
        if b = true then tE K W0 bv te σ3 H6 fun y H7 => ∃ acc, H7 A = some (.lst acc) ∧ acc.length < sizeLine ∧ Nx1 (upd H7 A (.lst (acc ++ [y]))) else Nx1 H6) := by
  refine ⟨fun i m H' => m = ds.length - i ∧ i ≤ ds.length ∧ ∃ e' F' fp' ys' zs', Stp F0 H0 (Pf fp0) F' H' (Pf fp') ∧ Sub F F' ∧ CS K bv e' (wipe σ vs1) F' H' fp' A ys' ∧ compL vs1 t1 tt1 te (ds.drop i) e' = .ok zs' ef ∧ ys' ++ zs' = ys ++ zs, ⟨ds.length, rfl, Nat.zero_le _, e, F, fp, ys, zs, s0, Sub.refl F, C, q, rfl⟩, ?_⟩
  rintro i m H' ⟨rfl, hi, e', F', fp', ys', zs', s', sub, C', q', hyz⟩
  obtain ⟨go, stop⟩ := wk F' H' i sub C'.ss.sub
  by_cases hlt : i < ds.length
  · refine .inr ⟨(go ds[i] (List.getElem?_eq_getElem hlt)).1, _, fun H2 h2 => ⟨ds.length - (i + 1), by omega, h2⟩, fun x H2 y => ?_⟩
    obtain ⟨F2, gr, r2⟩ := (go ds[i] (List.getElem?_eq_getElem hlt)).2 x H2 y
    have s2 : Stp F' H' (Pf fp') F2 H2 (Pf fp') := gr.stp C'.ss.sub
    have C2 := C'.step s2 (gr.ss C'.ss)
    rw [List.drop_eq_getElem_cons hlt] at q'
    refine turn_of hl hb (by have := congrArg List.length hyz; rw [List.length_append, List.length_append] at this; omega) C2 r2 q' fun e3 F3 H3 fp3 ys3 zs3 ⟨H4, s4, h4⟩ C3 q3 h3 => ?_
    refine ⟨rfl, hlt, e3, F3, fp3, ys3, zs3, ?_, (sub.trans s2.ext).trans s4.ext, C3, q3, h3.trans hyz⟩
    have s5 := (s'.trans s2).trans s4
    rcases h4 with rfl | ⟨o, rfl⟩
    · exact s5
    · exact s5.grow h0
  · have ei : i = ds.length := by omega
    subst ei
    rw [List.drop_length] at q'
    cases q'
    rw [List.append_nil] at hyz
    subst hyz
    exact .inl ⟨stop (Nat.le_refl _) (Nat.le_refl _), hN F' H' fp' s' sub C'⟩
theorem wipe_wipe {σ : L2.St} {vs vs1 : List Nat} (h : ∀ i ∈ vs1, i ∈ vs) : wipe (wipe σ vs1) vs = wipe σ vs := wipe_off (l := vs1) ⟨wipe_length σ vs1, fun j hj => wipe_out hj⟩ h
theorem comp2_of {vs vs1 l l1 : List Nat} {fi fi1 : EM (List D)} {t t1 : D → EM Unit} {tt tt1 : EM Bool} {te : EM D} {H : Hp} {Q : VK} (hl : ∀ i ∈ l, i ∈ vs) (hl1 : ∀ i ∈ l1, i ∈ vs1) (hv : ∀ i ∈ vs1, i ∈ vs) (hb : vs.all (fun i => (bv i).isNone) = true)
    (h : tE K W bv (compE2 vs vs1 fi t tt fi1 t1 tt1 te) σ H Q) : tLc2 (tI K W bv fi) (tTg K bv l t) (tT K W0 bv tt) (tI K W0 bv fi1) (tTg K bv l1 t1) (tT K W0 bv tt1) (tE K W0 bv te) vs vs1 σ H Q := by
  have hb1 : vs1.all (fun i => (bv i).isNone) = true := by
    rw [List.all_eq_true] at hb ⊢
    exact fun i hi => hb i (hv i hi)
  obtain ⟨e, F, fp, S, q⟩ := h
  refine ⟨e, F, fp, S, ?_⟩
  unfold AtG compE2 bnd at q
  cases z : fi e with
  | no => rw [z] at q; exact q
  | ex C fs e' => rw [z] at q; exact q
  | ok ds e1 =>
    rw [z] at q
    intro J F1 H1 fp1 s1 S1 wk A hA
    dsimp only at q
    by_cases hw : vs.all (imAt e1) = true
    · rw [if_pos hw] at q
      cases z2 : compL2 vs vs1 t tt fi1 t1 tt1 te ds (wipeE e1 vs) with
      | no => rw [z2] at q; exact q.elim
      | ex _ _ _ => rw [z2] at q; exact q.elim
      | ok zs ef =>
        rw [z2] at q
        dsimp only at q
        by_cases hfew : (few zs.length && vs.all (imAt ef)) = true
        · rw [if_pos hfew] at q
          rw [Bool.and_eq_true] at hfew
          have hz : zs.length ≤ 1000000 := of_decide_eq_true hfew.1
          have S1' := S1.wipe hw hb
          have fA : F1 A = none := S1.sub.non hA
          have pA : ¬ Pf fp1 A := fun ⟨i, h⟩ => by
            obtain ⟨o, ho⟩ := S1.live h
            rw [hA] at ho
            cases ho
          have C0 : CS K bv (wipeE e1 vs) (wipe σ vs) F1 (upd H1 A (.lst [])) fp1 A [] := by
            refine ⟨S1'.heap (Sub.refl F1) (S1.sub.mut fA) (fun i a o h q => ?_) S1.fr, ⟨[], upd_same, .nil⟩, fA, pA⟩
            rw [upd_ne (ne_of_none q hA)]
            exact q
          refine ⟨fun i m H' => m = ds.length - i ∧ i ≤ ds.length ∧ ∃ e' F' fp' ys zs', Stp F1 H1 (Pf fp1) F' H' (Pf fp') ∧ CS K bv e' (wipe σ vs) F' H' fp' A ys ∧ compL2 vs vs1 t tt fi1 t1 tt1 te (ds.drop i) e' = .ok zs' ef ∧ ys ++ zs' = zs, ⟨ds.length, rfl, Nat.zero_le _, wipeE e1 vs, F1, fp1, [], zs, (Stp.refl _ _ _).grow hA, C0, z2, rfl⟩, ?_⟩
          rintro i m H' ⟨rfl, hi, e', F', fp', ys, zs', s', C', q', hyz⟩
          obtain ⟨go, stop⟩ := wk F' H' i s'.ext C'.ss.sub
          by_cases hlt : i < ds.length
          · refine .inr ⟨(go ds[i] (List.getElem?_eq_getElem hlt)).1, _, fun H2 h2 => ⟨ds.length - (i + 1), by omega, h2⟩, fun x H2 y => ?_⟩
            obtain ⟨F2, gr, r2⟩ := (go ds[i] (List.getElem?_eq_getElem hlt)).2 x H2 y
            have s2 : Stp F' H' (Pf fp') F2 H2 (Pf fp') := gr.stp C'.ss.sub
            have C2 := C'.step s2 (gr.ss C'.ss)
            have s02 := s'.trans s2
            rw [List.drop_eq_getElem_cons hlt] at q'
            -- the outer target
            refine ⟨e', F2, fp', ds[i], C2.ss, r2, ?_⟩
            simp only [compL2] at q'
            cases z3 : t ds[i] e' with
            | no => rw [z3] at q'; cases q'
            | ex _ _ _ => rw [z3] at q'; cases q'
            | ok _ e3 =>
              rw [z3] at q'
              dsimp only at q' ⊢
              intro σ2 F3 H3 fp3 o3 s3 S3
              have w2 := wipe_off (vs := vs) o3 hl
              rw [wipe_wipe (fun _ h => h)] at w2
              refine ⟨w2, e3, F3, fp3, S3, ?_⟩
              unfold AtG
              cases z4 : tt e3 with
              | no => rw [z4] at q'; cases q'
              | ex _ _ _ => rw [z4] at q'; cases q'
              | ok b e4 =>
                rw [z4] at q'
                intro b' F4 H4 fp4 P4 s4 S4 hb4
                obtain ⟨rfl, hb4⟩ := hb4
                cases (show b' = b from hb4)
                have s34 := s3.trans s4
                cases b with
                | false =>
                  rw [if_neg Bool.false_ne_true]
                  dsimp only at q'
                  split at q'
                  · rename_i hw4
                    have S4' := S4.wipe hw4 hb
                    rw [w2] at S4'
                    exact ⟨rfl, hlt, _, F4, fp4, ys, zs', s02.trans s34, C2.step s34 S4', q', hyz⟩
                  · cases q'
                | true =>
                  rw [if_pos rfl]
                  dsimp only at q'
                  refine ⟨e4, F4, fp4, S4, ?_⟩
                  cases z5 : fi1 e4 with
                  | no => rw [z5] at q'; cases q'
                  | ex _ _ _ => rw [z5] at q'; cases q'
                  | ok ds1 e5 =>
                    rw [z5] at q'
                    dsimp only at q' ⊢
                    intro J1 F5 H5 fp5 s5 S5 wk1
                    split at q'
                    · rename_i hw5
                      cases z6 : compL vs1 t1 tt1 te ds1 (wipeE e5 vs1) with
                      | no => rw [z6] at q'; cases q'
                      | ex _ _ _ => rw [z6] at q'; cases q'
                      | ok ys1 e6 =>
                        rw [z6] at q'
                        dsimp only at q'
                        split at q'
                        · rename_i hw6
                          cases z7 : compL2 vs vs1 t tt fi1 t1 tt1 te (ds.drop (i + 1)) (wipeE e6 vs) with
                          | no => rw [z7] at q'; cases q'
                          | ex _ _ _ => rw [z7] at q'; cases q'
                          | ok zs2 e7 =>
                            rw [z7] at q'
                            cases q'
                            have s35 := s34.trans s5
                            have C5 := C2.step s35 (S5.wipe hw5 hb1)
                            refine inner_of hl1 hb1 ?_ hA (s02.trans s35) C5 wk1 z6 fun F8 H8 fp8 s8 sub8 C8 => ?_
                            · rw [← hyz, List.length_append, List.length_append] at hz
                              omega
                            · have S8 := C8.ss.wipe hw6 hb
                              rw [wipe_wipe hv, w2] at S8
                              exact ⟨rfl, hlt, wipeE e6 vs, F8, fp8, ys ++ ys1, zs2, s8, ⟨S8, C8.li, C8.nf, C8.np⟩, z7, by rw [← hyz, List.append_assoc]⟩
                        · cases q'
                    · cases q'
          · have ei : i = ds.length := by omega
            subst ei
            rw [List.drop_length] at q'
            cases q'
            rw [List.append_nil] at hyz
            subst hyz
            obtain ⟨F2, s2, S2, r2⟩ := C'.done s' hA
            exact .inl ⟨stop (Nat.le_refl _) (Nat.le_refl _), q _ F2 H' fp' (Pf fp') (s1.trans s2) (S1.unwipe hw s2.ext S2 hfew.2) ⟨rfl, r2⟩⟩
        · rw [if_neg hfew] at q
          exact q.elim
    · rw [if_neg hw] at q
      exact q.elim
end
section
variable {X : Cx} {W : WX} {bv : Nat → Option V} {pos : Pos}
theorem mem_of_all {l vs : List Nat} (h : l.all (vs.contains ·) = true) : ∀ i ∈ l, i ∈ vs := fun i hi => by
  rw [List.all_eq_true] at h
  exact List.contains_iff_mem.mp (h i hi)
theorem de_comp2 {elt tg iter tg1 iter1 : Expr} {ifs ifs1 : List Expr} {scope : Scope} (own : List (Str × Nat)) (vs1 : List Nat) {l l1 : List Nat} {fi fi1 : EM (List D)} {t t1 : D → EM Unit} {tt tt1 : EM Bool} {te : EM D} (hN : X.N.Nodup) (hi : DI X W bv tg iter fi) (ok : BlkOk X.N X.env.scope scope own)
    (hg : ∀ (s : Shared) (H : Hp) (C : Addr) (cl : List (Str × Addr)) (fp : List Addr), DG (X.blk s H scope (compEnvC scope cl C X.env) fp) bv tg l t) (ht : ∀ (s : Shared) (H : Hp) (C : Addr) (cl : List (Str × Addr)) (fp : List Addr), DTs (X.blk s H scope (compEnvC scope cl C X.env) fp) W0 bv ifs tt)
    (hi1 : ∀ (s : Shared) (H : Hp) (C : Addr) (cl : List (Str × Addr)) (fp : List Addr), DI (X.blk s H scope (compEnvC scope cl C X.env) fp) W0 bv tg1 iter1 fi1)
    (hg1 : ∀ (s : Shared) (H : Hp) (C : Addr) (cl : List (Str × Addr)) (fp : List Addr), DG (X.blk s H scope (compEnvC scope cl C X.env) fp) bv tg1 l1 t1) (ht1 : ∀ (s : Shared) (H : Hp) (C : Addr) (cl : List (Str × Addr)) (fp : List Addr), DTs (X.blk s H scope (compEnvC scope cl C X.env) fp) W0 bv ifs1 tt1)
    (he : ∀ (s : Shared) (H : Hp) (C : Addr) (cl : List (Str × Addr)) (fp : List Addr), DE (X.blk s H scope (compEnvC scope cl C X.env) fp) W0 bv elt te) (hl : l.all ((own.map (·.2)).contains ·) = true := by rfl) (hl1 : l1.all (vs1.contains ·) = true := by rfl) (hv : vs1.all ((own.map (·.2)).contains ·) = true := by rfl)
    (hb : (own.map (·.2)).all (fun i => (bv i).isNone) = true := by rfl)
    (hc : X.calm = true := by rfl) (hs : ∀ x, foldedSetIterable iter X.env x = pure x := by intro _; rfl) (hs1 : ∀ env x, foldedSetIterable iter1 env x = pure x := by intro _ _; rfl) :
    DE X W bv (.ListComp elt [⟨tg, iter, ifs, 0⟩, ⟨tg1, iter1, ifs1, 0⟩] scope pos) (compE2 (own.map (·.2)) vs1 fi t tt fi1 t1 tt1 te) :=
  pe_imp (pe_lc2 hc hN hi ok (mem_of_all hv) hg ht hi1 hg1 ht1 he hs hs1) fun σ H Q h => comp2_of (mem_of_all hl) (mem_of_all hl1) (mem_of_all hv) hb h
end
end FD
/-! FD: built-in functions of data. -/
namespace FD
variable [TabT]
open PySem L2
/-- a rule of a built-in serves a function of data -/
def CbV (K : PySem.W.Frag) (r : List V → Hp → VK → Prop) (g : List D → Option D) : Prop := ∀ (W : WX) (bv : Nat → Option V) (e : Env) (σ : L2.St) (F H : Hp) (fp : Nat → List Addr) (vs : List V) (ds : List D) (Q : VK),
  SS K bv e σ F H fp → RpL K F vs ds → AtG K W bv (smp (rD K)) (lif (g ds)) e σ F H fp Q → r vs H Q
def CbD (X : Cx) (f : Value) (g : List D → Option D) : Prop := ∃ r, CallR X f r ∧ CbV X.K r g
def cbE (g : List D → Option D) (fs : EM (List D)) : EM D := bnd fs fun ds => lif (g ds)
theorem cb_of {K : PySem.W.Frag} {W : WX} {bv : Nat → Option V} {σ : L2.St} {H : Hp} {r : List V → Hp → VK → Prop} {g : List D → Option D} {fs : EM (List D)} {Q : VK} (h : CbV K r g) (t : tE K W bv (cbE g fs) σ H Q) : tCB r (tA K W bv fs) σ H Q :=
  tG.mono (tG.bnd (r := rL K) t) fun x H1 ⟨d, e1, F1, fp1, S1, r1, q1⟩ => h W bv e1 σ F1 H1 fp1 x d Q S1 r1 q1
section
variable {X : Cx} {W : WX} {bv : Nat → Option V} {pos p : Pos} {a b : Expr} {es : List Expr} {fa fb : EM D} {fs : EM (List D)} {g : List D → Option D} {x : Str}
theorem de_callB {id : String} (hc : CbD X (.builtin id) g) (hm : X.mg x = none) (ha : DA X W bv (a :: es) fs) (hv : bootBuiltins x = some (.builtin id) := by rfl) (hg : Gl X x := by rfl) (hn : x ≠ "__name__" := by decide) (hdb : (x == ("__debug__" : Str)) = false := by decide)
    (he : starEach (a :: es) X.env = (false, eval a X.env) :: starEach es X.env := by rfl) (hpl : (backTo pos (starEach es X.env)).any (·.1) = false := by rfl) : DE X W bv (.Call (.Name x p) (a :: es) [] pos) (cbE g fs) := by
  obtain ⟨r, hr, h⟩ := hc
  exact pe_imp (pe_callB hr hg hm hv ha hn hdb he hpl) fun σ H Q t => cb_of h t
theorem de_callT {T : String} (hc : CbD X (.type T) g) (hm : X.mg x = none) (ha : DA X W bv (a :: es) fs) (hv : bootBuiltins x = some (.type T) := by rfl) (hg : Gl X x := by rfl) (hn : x ≠ "__name__" := by decide) (hdb : (x == ("__debug__" : Str)) = false := by decide)
    (he : starEach (a :: es) X.env = (false, eval a X.env) :: starEach es X.env := by rfl) (hpl : (backTo pos (starEach es X.env)).any (·.1) = false := by rfl) : DE X W bv (.Call (.Name x p) (a :: es) [] pos) (cbE g fs) := by
  obtain ⟨r, hr, h⟩ := hc
  exact pe_imp (pe_callTy hr hg hm hv ha hn hdb he hpl) fun σ H Q t => cb_of h t
/-! ### len -/
/-- a list by its own self -/
def qKB : List (D × D) → Bool
  | (.list (_ :: _), _) :: _ => true
  | _ => false
theorem qKB_dK : ∀ kds : List (Key × D), qKB (kds.map fun p => (keyD p.1, p.2)) = false
  | [] => rfl
  | (.inl _, _) :: _ => rfl
  | (.inr _, _) :: _ => rfl
theorem qKB_dT : ∀ kds : List (List Key × D), qKB (kds.map fun p => (PyData.tuple (p.1.map keyD), p.2)) = false
  | [] => rfl
  | _ :: _ => rfl
theorem qKB_kt : ∀ ds : List D, qKB (ds.map fun d => (PyData.list [], d)) = false
  | [] => rfl
  | _ :: _ => rfl
def lenD : List D → Option D
  | [.list ds] => some (.int ds.length)
  | [.tuple ds] => some (.int ds.length)
  | [.str z] => if few z.length then some (.int z.length) else none
  | [.dict kvs] => if qKB kvs = true then none else some (.int kvs.length)
  | _ => none
def rLenR : List V → Hp → VK → Prop := fun xs H Q => ∃ p : Addr, xs = [.ref p] ∧ ((∃ kvs, Rd H p (.dK kvs) ∧ Q (.int (kvs.length : Nat)) H) ∨ ∃ kvs, Rd H p (.dT kvs) ∧ Q (.int (kvs.length : Nat)) H)
theorem call_lenR : CallR X (.builtin "len") rLenR := by
  intro pins s σ H xs us Q I r h
  obtain ⟨p, rfl, h⟩ := h
  obtain ⟨u, rfl, rx⟩ := vals1 r
  cases (show u = Value.ref p from rx)
  rcases h with ⟨kvs, hp, q⟩ | ⟨kvs, hp, q⟩
  · obtain ⟨z, hd, ys, rel, dd⟩ := dk_rd I.hok hp
    have hl : ys.length = kvs.length := (Paired.length rel).symm
    refine call_len_dict hd dd (by rw [hl]; rw [sizeLine_eq] at z; omega) ?_
    rw [hl]
    exact ⟨.int (kvs.length : Nat), H, I.tok _, ⟨_, rfl⟩, q⟩
  · obtain ⟨z, hd, ys, rel, dd⟩ := dt_rd I.hok hp
    have hl : ys.length = kvs.length := (Paired.length rel).symm
    refine call_len_dictH hd dd (by rw [hl]; rw [sizeLine_eq] at z; omega) ?_
    rw [hl]
    exact ⟨.int (kvs.length : Nat), H, I.tok _, ⟨_, rfl⟩, q⟩
theorem cb_len : CbD X (.builtin "len") lenD := by
  refine ⟨_, CallR.or call_len_seq (CallR.or call_len_str call_lenR), ?_⟩
  intro W bv e σ F H fp vs ds Q S r q
  obtain ⟨d, hd, q'⟩ := q.lif
  cases r with
  | nil => cases hd
  | cons r1 r =>
    cases r with
    | cons _ _ => cases r1 <;> cases hd
    | nil =>
      cases r1 with
      | lst h rl =>
        cases hd
        refine .inl ⟨_, _, rfl, .inl (S.sub.l h), ?_⟩
        rw [rl.length]
        exact AtG.here (r := rD X.K) S q' (.int _)
      | tup h rl =>
        cases hd
        refine .inl ⟨_, _, rfl, .inr (S.sub.t h), ?_⟩
        rw [rl.length]
        exact AtG.here (r := rD X.K) S q' (.int _)
      | str z =>
        simp only [lenD] at hd
        split at hd
        · rename_i hz
          cases hd
          exact .inr (.inl ⟨z, rfl, few_le hz, AtG.here (r := rD X.K) S q' (.int _)⟩)
        · cases hd
      | dK h k rl =>
        rename_i kvs kds
        simp only [lenD, qKB_dK, Bool.false_eq_true, if_false] at hd
        cases hd
        refine .inr (.inr ⟨_, rfl, .inl ⟨_, S.sub.rd _ _ h, ?_⟩⟩)
        have : kvs.length = kds.length := by simpa using congrArg List.length k
        rw [this, ← List.length_map (as := kds) (f := fun p => (keyD p.1, p.2))]
        exact AtG.here (r := rD X.K) S q' (.int _)
      | dT h k rl =>
        rename_i kvs kds
        simp only [lenD, qKB_dT, Bool.false_eq_true, if_false] at hd
        cases hd
        refine .inr (.inr ⟨_, rfl, .inr ⟨_, S.sub.rd _ _ h, ?_⟩⟩)
        have : kvs.length = kds.length := by simpa using congrArg List.length k
        rw [this, ← List.length_map (as := kds) (f := fun p => (PyData.tuple (p.1.map keyD), p.2))]
        exact AtG.here (r := rD X.K) S q' (.int _)
      | kt h n rl =>
        rename_i ds
        simp only [lenD, ktD, qKB_kt, Bool.false_eq_true, if_false] at hd
        cases hd
        refine .inl ⟨_, _, rfl, .inr (.inr h), ?_⟩
        rw [rl.length, ← List.length_map (as := ds) (f := fun d => (PyData.list [], d))]
        exact AtG.here (r := rD X.K) S q' (.int _)
      | _ => cases hd
/-! ### bools, ints in lists -/
def boolsOf : List D → Option (List Bool)
  | [] => some []
  | .bool b :: r => (boolsOf r).map (b :: ·)
  | _ => none
def intsOf : List D → Option (List Int)
  | [] => some []
  | .int b :: r => (intsOf r).map (b :: ·)
  | _ => none
theorem RpL.bools {K : PySem.W.Frag} {F : Hp} : ∀ {vs : List V} {ds : List D} {bs : List Bool}, RpL K F vs ds → boolsOf ds = some bs → vs = bs.map V.bl
  | _, _, _, .nil, h => by cases h; rfl
  | _, _, _, .cons r1 r, h => by
    cases r1 with
    | bl b =>
      obtain ⟨bs', h1, rfl⟩ := Option.map_eq_some_iff.mp h
      rw [List.map_cons, r.bools h1]
    | _ => cases h
theorem RpL.ints {K : PySem.W.Frag} {F : Hp} : ∀ {vs : List V} {ds : List D} {bs : List Int}, RpL K F vs ds → intsOf ds = some bs → vs = bs.map V.int
  | _, _, _, .nil, h => by cases h; rfl
  | _, _, _, .cons r1 r, h => by
    cases r1 with
    | int b =>
      obtain ⟨bs', h1, rfl⟩ := Option.map_eq_some_iff.mp h
      rw [List.map_cons, r.ints h1]
    | _ => cases h
def anyD : List D → Option D
  | [.list ds] => (boolsOf ds).map fun bs => .bool (bs.any id)
  | _ => none
def allD : List D → Option D
  | [.list ds] => (boolsOf ds).map fun bs => .bool (bs.all id)
  | _ => none
theorem one_list {K : PySem.W.Frag} {F : Hp} {vs : List V} {ds : List D} {d : D} {h : List D → Option D} {k : List D → Option D} (hh : ∀ ds, h ds = match ds with | [.list es] => k es | _ => none) (r : RpL K F vs ds) (hd : h ds = some d) : ∃ a us es, vs = [.ref a] ∧ SqL K F a us ∧ RpL K F us es ∧ k es = some d := by
  rw [hh] at hd
  cases r with
  | nil => cases hd
  | cons r1 r =>
    cases r with
    | cons _ _ => cases r1 <;> cases hd
    | nil =>
      cases r1 with
      | lst h rl => exact ⟨_, _, _, rfl, h, rl, hd⟩
      | _ => cases hd
theorem cb_any (hc : X.calm = true := by rfl) : CbD X (.builtin "any") anyD := by
  refine ⟨_, cr_any hc, ?_⟩
  intro W bv e σ F H fp vs ds Q S r q
  obtain ⟨d, hd, q'⟩ := q.lif
  obtain ⟨a, us, es, rfl, h1, h2, h3⟩ := one_list (h := anyD) (k := fun ds => (boolsOf ds).map fun bs => .bool (bs.any id)) (fun ds => by unfold anyD; rfl) r hd
  obtain ⟨bs, h4, rfl⟩ := Option.map_eq_some_iff.mp h3
  exact ⟨a, bs, rfl, by rw [← h2.bools h4]; exact S.sub.l h1, AtG.here (r := rD X.K) S q' (.bl _)⟩
theorem cb_all (hc : X.calm = true := by rfl) : CbD X (.builtin "all") allD := by
  refine ⟨_, cr_all hc, ?_⟩
  intro W bv e σ F H fp vs ds Q S r q
  obtain ⟨d, hd, q'⟩ := q.lif
  obtain ⟨a, us, es, rfl, h1, h2, h3⟩ := one_list (h := allD) (k := fun ds => (boolsOf ds).map fun bs => .bool (bs.all id)) (fun ds => by unfold allD; rfl) r hd
  obtain ⟨bs, h4, rfl⟩ := Option.map_eq_some_iff.mp h3
  exact ⟨a, bs, rfl, by rw [← h2.bools h4]; exact S.sub.l h1, AtG.here (r := rD X.K) S q' (.bl _)⟩
/-! ### min, max -/
def minI : List Int → Option Int
  | [] => none
  | n :: ns => some (ns.foldl min n)
theorem foldl_min_le : ∀ (ns : List Int) (n : Int), ns.foldl min n ≤ n ∧ ∀ y ∈ ns, ns.foldl min n ≤ y
  | [], n => ⟨Int.le_refl n, fun y h => by cases h⟩
  | a :: ns, n => by
    have ih := foldl_min_le ns (min n a)
    rw [List.foldl_cons]
    refine ⟨by omega, fun y hy => ?_⟩
    rcases List.mem_cons.mp hy with e | hy
    · subst e; omega
    · exact ih.2 y hy
theorem foldl_min_mem : ∀ (ns : List Int) (n : Int), ns.foldl min n = n ∨ ns.foldl min n ∈ ns
  | [], n => .inl rfl
  | a :: ns, n => by
    rw [List.foldl_cons]
    rcases foldl_min_mem ns (min n a) with h | h
    · rw [h]
      rcases Int.le_total n a with q | q
      · exact .inl (Int.min_eq_left q)
      · exact .inr (by rw [Int.min_eq_right q]; exact List.mem_cons_self)
    · exact .inr (List.mem_cons_of_mem _ h)
def minD : List D → Option D
  | [.int i, .int j] => some (.int (if j < i then j else i))
  | [.list ds] => (intsOf ds).bind fun ns => (minI ns).map .int
  | _ => none
theorem two_or_list {K : PySem.W.Frag} {F : Hp} {vs : List V} {ds : List D} {d : D} {h : List D → Option D} {k2 : Int → Int → Option D} {k : List D → Option D} (hh : ∀ ds, h ds = match ds with | [.int i, .int j] => k2 i j | [.list es] => k es | _ => none) (r : RpL K F vs ds) (hd : h ds = some d) :
    (∃ i j, vs = [.int i, .int j] ∧ k2 i j = some d) ∨ ∃ a us es, vs = [.ref a] ∧ SqL K F a us ∧ RpL K F us es ∧ k es = some d := by
  rw [hh] at hd
  cases r with
  | nil => cases hd
  | cons r1 r =>
    cases r with
    | cons r2 r =>
      cases r with
      | nil => cases r1 <;> cases r2 <;> first | (cases hd; done) | exact .inl ⟨_, _, rfl, hd⟩
      | cons _ _ => cases r1 <;> cases r2 <;> cases hd
    | nil =>
      cases r1 with
      | lst h rl => exact .inr ⟨_, _, _, rfl, h, rl, hd⟩
      | _ => cases hd
theorem cb_min (hc : X.calm = true := by rfl) : CbD X (.builtin "min") minD := by
  refine ⟨_, CallR.or (call_min2 hc) (cr_min hc), ?_⟩
  intro W bv e σ F H fp vs ds Q S r q
  obtain ⟨d, hd, q'⟩ := q.lif
  rcases two_or_list (h := minD) (k2 := fun i j => some (.int (if j < i then j else i))) (k := fun ds => (intsOf ds).bind fun ns => (minI ns).map .int) (fun ds => by unfold minD; rfl) r hd with ⟨i, j, rfl, h⟩ | ⟨a, us, es, rfl, h1, h2, h3⟩
  · cases h
    exact .inl ⟨i, j, rfl, AtG.here (r := rD X.K) S q' (.int _)⟩
  · obtain ⟨ns, h4, h5⟩ := Option.bind_eq_some_iff.mp h3
    obtain ⟨m, h6, rfl⟩ := Option.map_eq_some_iff.mp h5
    cases ns with
    | nil => cases h6
    | cons n ns =>
      cases h6
      refine .inr ⟨a, n :: ns, rfl, by rw [← h2.ints h4]; exact S.sub.l h1, Nat.succ_pos _, fun m hm hle => ?_⟩
      have : m = ns.foldl min n := by
        have hl := foldl_min_le ns n
        have hmem : ns.foldl min n ∈ n :: ns := (foldl_min_mem ns n).elim (fun e => by rw [e]; exact List.mem_cons_self) (List.mem_cons_of_mem _)
        have a1 := hle _ hmem
        have a2 : ns.foldl min n ≤ m := (List.mem_cons.mp hm).elim (fun e => by rw [e]; exact hl.1) (hl.2 m)
        omega
      rw [this]
      exact AtG.here (r := rD X.K) S q' (.int _)
/-! ### tuple(x), list(x) -/
def chars (z : Str) : List D := z.cps.toList.map fun c => .str ⟨#[c]⟩
def tupleD : List D → Option D
  | [.list ds] => some (.tuple ds)
  | [.tuple ds] => some (.tuple ds)
  | [.str z] => if few z.length then some (.tuple (chars z)) else none
  | _ => none
def charsV (z : Str) : List V := z.cps.toList.map fun c => .str ⟨#[c]⟩
theorem rpl_chars {K : PySem.W.Frag} {F : Hp} : ∀ l : List Nat, RpL K F (l.map fun c => V.str ⟨#[c]⟩) (l.map fun c => .str ⟨#[c]⟩)
  | [] => .nil
  | c :: l => .cons (.str _) (rpl_chars l)
def rTupS : List V → Hp → VK → Prop := fun xs H Q => ∃ z, xs = [.str z] ∧ z.length ≤ sizeLine ∧ ∀ p, H p = none → Q (.ref p) (upd H p (.tup (charsV z)))
theorem vals_chars {z : Str} {acc : Array Value} (h : ItemsOf (SignAt z) acc z.cps.size) : Vals (charsV z) acc.toList := by
  unfold charsV
  have e : z.cps.toList.length = acc.toList.length := by rw [Array.length_toList, Array.length_toList]; exact h.1.symm
  refine vals_of_at (by rw [List.length_map]; exact e) fun j x u hx hu => ?_
  rw [List.getElem?_map] at hx
  obtain ⟨c, hc, rfl⟩ := Option.map_eq_some_iff.mp hx
  have hu' : acc[j]? = some u := by rw [← hu, Array.getElem?_toList]
  have := h.2 j u hu'
  unfold SignAt at this
  have hc' : z.cps[j]? = some c := by rw [← hc, Array.getElem?_toList]
  obtain ⟨c', t, h1, rfl⟩ := this
  rw [hc'] at h1
  cases h1
  exact ⟨_, rfl⟩
theorem call_tupS (hc : X.calm = true) : CallR X (.type "tuple") rTupS := by
  intro pins s σ H xs us Q I r h
  obtain ⟨z, rfl, hz, q⟩ := h
  obtain ⟨u, rfl, rx⟩ := vals1 r
  obtain ⟨t, rfl⟩ := rx
  refine call_tuple_str (I.ok.hd hc) z t (fun h' tk acc hk hi => ?_) hz
  have I2 : Inv X pins σ H { s with heap := h', toks := tk } := I.kept hk
  refine ⟨.ref h'.objs.size, _, I2.laid (t' := tk) (fun c o e => Heap.get?_push_of_some _ e) (Nat.le_refl _) (show ObjOk X.prog X.w _ _ _ (.tup (charsV z)) from ⟨?_, acc.toList, vals_chars hi, ?_⟩), rfl, q _ (I2.hok.fresh (Nat.le_refl _))⟩
  · unfold charsV; rw [List.length_map, Array.length_toList]; exact hz
  · rw [Array.toArray_toList]; exact PyProof.Rows.IsTup.new _ _
theorem cb_tuple (hc : X.calm = true := by rfl) : CbD X (.type "tuple") tupleD := by
  refine ⟨_, CallR.or call_tuple_of (call_tupS hc), ?_⟩
  intro W bv e σ F H fp vs ds Q S r q
  obtain ⟨d, hd, q'⟩ := q.lif
  cases r with
  | nil => cases hd
  | cons r1 r =>
    cases r with
    | cons _ _ => cases r1 <;> cases hd
    | nil =>
      cases r1 with
      | lst h rl =>
        cases hd
        refine .inl ⟨_, _, rfl, .inl ⟨S.sub.l h, fun p hp => ?_⟩⟩
        exact AtG.made (r := rD X.K) S q' hp (.tup upd_same (RpL.mono (Sub.new (S.sub.non hp)) rl))
      | tup h rl =>
        cases hd
        exact .inl ⟨_, _, rfl, .inr ⟨S.sub.t h, AtG.here (r := rD X.K) S q' (.tup h rl)⟩⟩
      | str z =>
        simp only [tupleD] at hd
        split at hd
        · rename_i hz
          cases hd
          refine .inr ⟨z, rfl, few_le hz, fun p hp => ?_⟩
          exact AtG.made (r := rD X.K) S q' hp (.tup upd_same (rpl_chars _))
        · cases hd
      | _ => cases hd
/-! ### tuple(range(..)), list(range(..)) -/
def fitR (a b : Int) : Bool := small a && small b && decide ((b - a).toNat ≤ 1000000)
def rgD (mk : List D → D) : List D → Option D
  | [.int b] => if fitR 0 b then some (mk (rngDs 0 b)) else none
  | [.int a, .int b] => if fitR a b then some (mk (rngDs a b)) else none
  | _ => none
/-! ### isinstance -/
def tyD : D → String
  | .none => "NoneType"
  | .bool _ => "bool"
  | .int _ => "int"
  | .str _ => "str"
  | .list _ => "list"
  | .tuple _ => "tuple"
  | .dict ((.list [], _) :: _) => "tuple"
  | .dict ((.list (_ :: _), _) :: _) => "list"
  | _ => "dict"
def rIsiDT (K : PySem.W.Frag) : List V → Hp → VK → Prop := fun xs H Q => ∃ (a : Addr) (kvs : List (List Key × V)) (c : V) (u : Value) (b : Bool), xs = [.ref a, c] ∧ ClsV c u ∧ Rd H a (.dT kvs) ∧ PySem.W.kitOne K (.type "dict") u = some b ∧ Q (.bl b) H
theorem call_isiDT : CallR X (.builtin "isinstance") (rIsiDT X.K) := by
  intro pins s σ H xs us Q I r h
  obtain ⟨a, kvs, c, u, b, rfl, k, hd, e, q⟩ := h
  obtain ⟨u1, u2, rfl, r1, r2⟩ := vals2 r
  obtain rfl := k.eq r2
  cases (show u1 = Value.ref a from r1)
  obtain ⟨_, _, xs', _, o, es', ep, h1, h2, _⟩ := dt_rd I.hok hd
  exact PySem.W.kia_one PySem.W.kitx_dict I.kIn ⟨o, h1, h2.1⟩ e (fun z => nomatch z) fun tk => ⟨.bl b, H, I.tok tk, rfl, q⟩
/-- a tuple of the module, told as a dict -/
def ktB : List (D × D) → Bool
  | (.list _, _) :: _ => true
  | _ => false
def ktT : List (D × D) → Bool
  | (.list [], _) :: _ => true
  | _ => false
theorem ktB_dK : ∀ kds : List (Key × D), ktB (kds.map fun p => (keyD p.1, p.2)) = false
  | [] => rfl
  | (.inl _, _) :: _ => rfl
  | (.inr _, _) :: _ => rfl
theorem ktB_dT : ∀ kds : List (List Key × D), ktB (kds.map fun p => (PyData.tuple (p.1.map keyD), p.2)) = false
  | [] => rfl
  | _ :: _ => rfl
theorem ktB_kt : ∀ {ds : List D}, ds ≠ [] → ktB (ds.map fun d => (PyData.list [], d)) = true
  | [], h => absurd rfl h
  | _ :: _, _ => rfl
theorem ty_dK : ∀ kds : List (Key × D), tyD (.dict (kds.map fun p => (keyD p.1, p.2))) = "dict"
  | [] => rfl
  | (.inl _, _) :: _ => rfl
  | (.inr _, _) :: _ => rfl
theorem ty_dT : ∀ kds : List (List Key × D), tyD (.dict (kds.map fun p => (.tuple (p.1.map keyD), p.2))) = "dict"
  | [] => rfl
  | _ :: _ => rfl
theorem ty_kt : ∀ {ds : List D}, ds ≠ [] → tyD (ktD ds) = "tuple"
  | [], h => absurd rfl h
  | _ :: _, _ => rfl
/-- a def of the module -/
def fnB : D → Bool
  | .dict ((.list (.str _ :: _), _) :: _) => true
  | _ => false
theorem Rp.ty {K : PySem.W.Frag} {F H : Hp} (s : Sub F H) {v : V} {d : D} (hf : fnB d = false) (r : Rp K F v d) : TyX K H v (.type (tyD d)) ∨ (tyD d = "dict" ∧ ∃ a kvs, v = .ref a ∧ Rd H a (.dT kvs)) := by
  cases r with
  | non => exact .inl (.base .non)
  | bl b => exact .inl (.base (.bl b))
  | int i => exact .inl (.base (.int i))
  | str x => exact .inl (.base (.str x))
  | lst h _ =>
    rcases s.l h with (q | ⟨o, q⟩) | ⟨o, its, n, hk, hcl, _⟩
    · exact .inl (.base (.lst q))
    · exact .inl (.base (.frz q))
    · exact .inl (.kList hk hcl)
  | tup h _ => exact .inl (.base (.tup (s.tp _ _ h)))
  | dK h _ _ =>
    rw [ty_dK]
    rcases s.rd _ _ h with q | ⟨o, q⟩
    · exact .inl (.base (.dK q))
    · exact .inl (.fDict q)
  | dT h _ _ => exact .inr ⟨ty_dT _, _, _, rfl, s.rd _ _ h⟩
  | kt h n _ =>
    obtain ⟨o, its, m, hk, hcl, _⟩ := h
    rw [ty_kt n]
    exact .inl (.kTuple hk hcl)
  | opq h =>
    rcases s.rd _ _ h with q | ⟨o, q⟩
    · exact .inl (.base (.lst q))
    · exact .inl (.base (.frz q))
  | fn h => cases hf
/-- whether data is of a built-in type -/
def isiS (t T : String) : Bool := (t == T) || (T == "int" && t == "bool")
def isiB (T : String) (d : D) : Bool := isiS (tyD d) T
def isiD (T : String) (d : D) : Option D := match fnB d with
  | true => none
  | false => some (.bool (isiB T d))
def tys : List String := ["NoneType", "bool", "int", "str", "list", "tuple", "dict"]
theorem tyD_in (d : D) : tyD d ∈ tys := by unfold tyD; split <;> simp [tys]
def KitD (T : String) : Prop := ∀ t ∈ tys, kitB t T = some (isiS t T)
theorem kit_int : KitD "int" := by unfold KitD; decide +kernel
theorem kit_bool : KitD "bool" := by unfold KitD; decide +kernel
theorem kit_str : KitD "str" := by unfold KitD; decide +kernel
theorem kit_tuple : KitD "tuple" := by unfold KitD; decide +kernel
theorem de_isi {T : String} {y : Str} {py : Pos} (hk : KitD T) (hm : X.mg "isinstance" = none) (hmT : X.mg y = none) (ha : DE X W bv a fa) (hy : bootBuiltins y = some (.type T) := by rfl) (hg : Gl X "isinstance" := by rfl) (hgy : Gl X y := by rfl) (hny : y ≠ "__name__" := by decide) (hdy : (y == ("__debug__" : Str)) = false := by decide)
    (he : starEach [a, .Name y py] X.env = (false, eval a X.env) :: starEach [.Name y py] X.env := by rfl) (he2 : starEach [.Name y py] X.env = (false, eval (.Name y py) X.env) :: starEach [] X.env := by rfl) (hpl : (backTo pos (starEach [.Name y py] X.env)).any (·.1) = false := by rfl) :
    DE X W bv (.Call (.Name "isinstance" p) [a, .Name y py] [] pos) (un (isiD T) fa) :=
  pe_imp (pe_callB (CallR.or call_isi call_isiDT) hg hm (by rfl) (pa_cons ha (pa_cons (pe_bltn (v := .ty T) hgy hmT hy rfl hny hdy) pa_nil he2) he) (by decide) (by decide) he hpl) fun σ H Q t => by
    refine tG.mono (tG.bnd (r := rD X.K) t) fun x H1 ⟨d, e1, F1, fp1, S1, r1, q1⟩ => ?_
    cases hf : fnB d with
    | true => unfold isiD at q1; rw [hf] at q1; exact q1.elim
    | false =>
    unfold isiD at q1
    rw [hf] at q1
    have q2 := AtG.here (r := rD X.K) S1 q1 (.bl (isiB T d))
    rcases Rp.ty S1.sub hf r1 with h | ⟨h, a, kvs, rfl, hr⟩
    · exact .inl ⟨x, .ty T, _, _, _, rfl, .ty T, h, kit_ty (hk _ (tyD_in d)), q2⟩
    · exact .inr ⟨a, kvs, .ty T, _, _, rfl, .ty T, hr, kit_ty (by rw [← h]; exact hk _ (tyD_in d)), q2⟩
/-! ### repr of lists and tuples -/
def isSq : D → Bool
  | .list _ => true
  | .tuple _ => true
  | _ => false
def repOk (d : D) : Bool := isSq d && d.canLay0 && d.showable && d.intsShort 13 && decide (d.depth ≤ 40) && decide (d.weight ≤ 2 ^ 20)
def reprD : List D → Option D
  | [d] => if repOk d then some (.str d.shown) else none
  | _ => none
def rRepr (K : PySem.W.Frag) : List V → Hp → VK → Prop := fun xs H Q => ∃ (v : V) (d : D), xs = [v] ∧ Dp K H v d ∧ repOk d = true ∧ Q (.str d.shown) H
theorem call_reprD {k : Nat} (hg : X.A.guards = some []) (hr : Room k X.A) : CallR X (.builtin "repr") (rRepr X.K) := by
  intro pins s σ H xs us Q I r h
  obtain ⟨v, d, rfl, hd, ok, q⟩ := h
  obtain ⟨u, rfl, rx⟩ := vals1 r
  obtain ⟨as, rd⟩ := Dp.reads I d v u hd rx
  simp only [repOk, Bool.and_eq_true, decide_eq_true_eq] at ok
  obtain ⟨⟨⟨⟨⟨sq, cl⟩, sh⟩, is⟩, dp⟩, wt⟩ := ok
  have href : ∃ a, u = Value.ref a := by
    cases hd <;> first | (cases sq; done) | exact ⟨_, rx⟩
  obtain ⟨a, rfl⟩ := href
  have nd := PyData.hasDict_of_canLay d cl
  have lay : d.layable0 = true := by
    unfold PyData.layable0
    rw [cl, decide_eq_true (show d.depth ≤ 64 by omega), decide_eq_true wt]
    rfl
  refine repr_of_reads' rd sh (fun z => by rw [nd] at z; cases z) hg (by have := hr.un; omega) (fun b o z => z) (fun h' u' tk hk => ?_) (Nat.le_trans (PyProof.Rows.shown_le13 lay is) (by decide))
  exact ⟨.str d.shown, H, I.kept hk, ⟨_, rfl⟩, q⟩
theorem cb_repr {k : Nat} (hg : X.A.guards = some []) (hr : Room k X.A) : CbD X (.builtin "repr") reprD := by
  refine ⟨_, call_reprD hg hr, ?_⟩
  intro W bv e σ F H fp vs ds Q S r q
  obtain ⟨d, hd, q'⟩ := q.lif
  cases r with
  | nil => cases hd
  | cons r1 r =>
    cases r with
    | cons _ _ => cases hd
    | nil =>
      rename_i v d1
      simp only [reprD] at hd
      split at hd
      · rename_i hz
        cases hd
        have cl : d1.canLay0 = true := by
          simp only [repOk, Bool.and_eq_true] at hz
          exact hz.1.1.1.1.2
        exact ⟨v, d1, rfl, r1.dp S.sub cl, hz, AtG.here (r := rD X.K) S q' (.str _)⟩
      · cases hd
/-! ### seq * n -/
def repL (ds : List D) (k : Int) : List D := (List.replicate k.toNat ds).flatten
def mulD : D → D → Option D
  | .tuple ds, .int k => if !ds.isEmpty && decide (2 ≤ k) && decide (k ≤ 1000) && decide (ds.length ≤ 1000) then some (.tuple (repL ds k)) else none
  | x, y => mulI x y
theorem RpL.rep {K : PySem.W.Frag} {F : Hp} {vs : List V} {ds : List D} (r : RpL K F vs ds) : ∀ n : Nat, RpL K F (List.replicate n vs).flatten (List.replicate n ds).flatten
  | 0 => .nil
  | n + 1 => by
    rw [List.replicate_succ, List.replicate_succ, List.flatten_cons, List.flatten_cons]
    exact r.append (RpL.rep r n)
theorem od_mul : OpD X (binaryOp .Mult) mulD := by
  obtain ⟨r, hr, hv⟩ := od_mulI (X := X)
  refine ⟨_, OpR.or hr op_repT, ?_⟩
  intro W bv e σ F H fp x y d1 d2 Q S r1 r2 q
  have r1' := r1
  have r2' := r2
  cases r1 with
  | tup h rl =>
    cases r2 with
    | int k =>
      obtain ⟨d, hd, q'⟩ := q.lif
      simp only [mulD] at hd
      split at hd
      · rename_i hz
        cases hd
        simp only [Bool.and_eq_true, decide_eq_true_eq, Bool.not_eq_true', List.isEmpty_eq_false_iff] at hz
        refine .inr ⟨_, k, _, rfl, rfl, S.sub.t h, fun z => ?_, hz.1.1.2, hz.1.2, by rw [rl.length]; exact hz.2, fun p hp => ?_⟩
        · subst z
          cases rl
          exact hz.1.1.1 rfl
        · exact AtG.made (r := rD X.K) S q' hp (.tup upd_same (RpL.mono (Sub.new (S.sub.non hp)) (rl.rep _)))
      · cases hd
    | _ => exact .inl (hv W bv e σ F H fp _ _ _ _ Q S r1' r2' q)
  | _ => exact .inl (hv W bv e σ F H fp _ _ _ _ Q S r1' r2' (by cases r2 <;> exact q))
/-- [..] * n -/
def repE (fs : EM (List D)) (fb : EM D) : EM D := bnd fs fun ds => if few ds.length then bnd fb fun k => lif (match k with
  | .int k => if decide (-(2 ^ 63) ≤ k) && decide (k < 2 ^ 63) && few (ds.length * k.toNat) then some (.list (repL ds k)) else none
  | _ => none) else lif none
end
end FD
/-! FD: things that a slot owns: made, read, changed. -/
namespace FD
variable [TabT]
open PySem L2
section
variable {K : PySem.W.Frag} {W : WX} {bv : Nat → Option V} {e : Env} {σ : L2.St} {F H : Hp} {fp : Nat → List Addr}
theorem AtG.mkM {m : M} {Q : VK} {p : Addr} {o : HO} (S : SS K bv e σ F H fp) (h : AtG K W bv (rM K) (FD.ret m) e σ F H fp Q) (hp : H p = none) (ho : Own K F (upd H p o) (.ref p) m [p]) : Q (.ref p) (upd H p o) := by
  have np : ¬ Pf fp p := fun ⟨i, hi⟩ => by
    obtain ⟨u, hu⟩ := S.live hi
    rw [hp] at hu
    cases hu
  refine h (.ref p) F (upd H p o) fp (fun a => Pf fp a ∨ a ∈ [p]) ⟨Sub.refl F, fun a u q _ _ _ => by rw [upd_ne (ne_of_none q hp)]; exact q, fun a q => ?_, fun a ps q => ⟨ps, by rw [upd_ne (ne_of_none q hp)]; exact q⟩, fun a q => .inl q, fun a q => ?_⟩ (S.heap (Sub.refl F) (S.sub.mut (S.sub.non hp)) (fun i a u ha q => by rw [upd_ne (ne_of_none q hp)]; exact q) S.fr) ⟨[p], rfl, ho, by simp, fun a ha => ?_, fun a ha => ?_⟩
  · by_cases z : a = p
    · subst z; exact hp
    · rw [upd_ne z] at q; exact q
  · rcases q with q | q
    · exact .inl q
    · rw [List.mem_singleton] at q
      subst q
      exact .inr hp
  · rw [List.mem_singleton] at ha
    subst ha
    exact np
  · rw [List.mem_singleton] at ha
    subst ha
    exact S.sub.non hp
theorem put_self {i : Nat} : put fp i (fp i) = fp := by
  funext j
  by_cases h : j = i
  · subst h; exact put_same
  · exact put_ne h
/-- the object at a, the head of what slot i owns, becomes another -/
theorem SS.upH {i : Nat} {a : Addr} {fpl : List Addr} {o : HO} {m : M} (S : SS K bv e σ F H fp) (hi : i < e.length) (hv : σ[i]? = some (some (.ref a))) (hf : fp i = a :: fpl) (ho : Own K F (upd H a o) (.ref a) m (a :: fpl)) :
    SS K bv (e.set i (some m)) σ F (upd H a o) fp ∧ Stp F H (Pf fp) F (upd H a o) (Pf fp) := by
  have ha : F a = none := S.fr i a (by rw [hf]; exact List.mem_cons_self)
  have hm : a ∈ fp i := by rw [hf]; exact List.mem_cons_self
  have off : ∀ j, j ≠ i → ∀ b ∈ fp j, b ≠ a := fun j n b hb z => n (S.dj j i b hb (by rw [z]; exact hm))
  constructor
  · have q := S.put (H' := upd H a o) (Sub.refl F) (S.sub.mut ha) hi hv (fun _ _ => rfl) rfl (fun u hu => by
      have z := S.bor i u hu
      rw [hv] at z
      cases z
      rfl) ho (hf ▸ S.nd i) (fun b hb => S.fr i b (by rw [hf]; exact hb)) (fun j n b hb z => n (S.dj j i b hb (by rw [hf]; exact z))) (fun j n b hb u hu => by rw [upd_ne (off j n b hb)]; exact hu) (fun j _ b hb => S.fr j b hb)
    rw [← hf, put_self] at q
    exact q
  · refine ⟨Sub.refl F, fun b u hb n _ _ => ?_, fun b hb => ?_, fun b ps hb => ⟨ps, by rw [upd_ne fun z => by rw [z] at hb; exact (S.nx hm hb).1 ps rfl]; exact hb⟩, fun b hb => .inl hb, fun b hb => .inl hb⟩
    · rw [upd_ne fun z => n ⟨i, by rw [z]; exact hm⟩]
      exact hb
    · by_cases z : b = a
      · rw [z, upd_same] at hb; cases hb
      · rw [upd_ne z] at hb; exact hb
theorem OwnL.other {a : Addr} {o : HO} {vs : List V} {ms : List M} {fpl : List Addr} (h : OwnL K F H vs ms fpl) (n : a ∉ fpl) : OwnL K F (upd H a o) vs ms fpl :=
  h.mono (Sub.refl F) fun b hb u hu => by rw [upd_ne fun z => n (by rw [← z]; exact hb)]; exact hu
theorem OwnL.snoc {v : V} {d : D} (r : Rp K F v d) : ∀ {vs : List V} {ms : List M} {fpl : List Addr}, OwnL K F H vs ms fpl → OwnL K F H (vs ++ [v]) (ms ++ [.im d]) fpl
  | _, _, _, .nil => OwnL.cons (fp := []) (fq := []) (.im r) .nil
  | _, _, _, .cons h t => .cons h (OwnL.snoc r t)
theorem OwnL.set {v : V} {d : D} (r : Rp K F v d) : ∀ {vs : List V} {ms : List M} {fpl : List Addr} {j : Nat} {d0 : D}, OwnL K F H vs ms fpl → ms[j]? = some (.im d0) → OwnL K F H (vs.set j v) (ms.set j (.im d)) fpl
  | _, _, _, _, _, .nil, h => by simp at h
  | _, _, _, 0, _, .cons h t, q => by
    simp at q
    subst q
    cases h
    exact OwnL.cons (fp := []) (.im r) t
  | _, _, _, j + 1, _, .cons h t, q => .cons h (OwnL.set r t (by simpa using q))
/-- what slot i owns, a list -/
theorem SS.lsAt {i : Nat} {ms : List M} (S : SS K bv e σ F H fp) (he : e[i]? = some (some (.ls ms))) : ∃ a vs fpl, σ[i]? = some (some (.ref a)) ∧ H a = some (.lst vs) ∧ fp i = a :: fpl ∧ OwnL K F H vs ms fpl ∧ a ∉ fpl := by
  obtain ⟨v, hv, o⟩ := S.own i _ he
  have nd := S.nd i
  generalize hl : fp i = l at o nd
  cases o with
  | ls h r => exact ⟨_, _, _, hv, h, rfl, r, (List.nodup_cons.mp nd).1⟩
theorem SS.dtAt {i : Nat} {kms : List (List Key × M)} (S : SS K bv e σ F H fp) (he : e[i]? = some (some (.dt kms))) : ∃ a kvs fpl, σ[i]? = some (some (.ref a)) ∧ H a = some (.dT kvs) ∧ fp i = a :: fpl ∧ kvs.map (·.1) = kms.map (·.1) ∧ OwnL K F H (kvs.map (·.2)) (kms.map (·.2)) fpl ∧ a ∉ fpl := by
  obtain ⟨v, hv, o⟩ := S.own i _ he
  have nd := S.nd i
  generalize hl : fp i = l at o nd
  cases o with
  | dt h k r => exact ⟨_, _, _, hv, h, rfl, k, r, (List.nodup_cons.mp nd).1⟩
theorem SS.dkAt {i : Nat} {kms : List (Key × M)} (S : SS K bv e σ F H fp) (he : e[i]? = some (some (.dk kms))) : ∃ a kvs fpl, σ[i]? = some (some (.ref a)) ∧ H a = some (.dK kvs) ∧ fp i = a :: fpl ∧ kvs.map (·.1) = kms.map (·.1) ∧ OwnL K F H (kvs.map (·.2)) (kms.map (·.2)) fpl ∧ a ∉ fpl := by
  obtain ⟨v, hv, o⟩ := S.own i _ he
  have nd := S.nd i
  generalize hl : fp i = l at o nd
  cases o with
  | dk h k r => exact ⟨_, _, _, hv, h, rfl, k, r, (List.nodup_cons.mp nd).1⟩
end
/-! ### new things to own -/
def lstM (fs : EM (List D)) : EM M := bnd fs fun ds => if few ds.length then ret (.ls (ds.map .im)) else fun _ => .no
def dtM : EM M := ret (.dt [])
def dkM : EM M := ret (.dk [])
def catM (fa fb : EM D) : EM M := bnd fa fun x => bnd fb fun y => match x, y with
  | .list xs, .list ys => if few (xs.length + ys.length) then ret (.ls ((xs ++ ys).map .im)) else fun _ => .no
  | _, _ => fun _ => .no
section
variable {X : Cx} {W : WX} {bv : Nat → Option V} {pos : Pos} {a b : Expr} {es : List Expr} {fa fb : EM D} {fs : EM (List D)} {ta : EM Bool}
theorem dm_lst (h : DA X W bv es fs) : DM X W bv (.List es pos) (lstM fs) :=
  pe_imp (pe_lst h) fun σ H Q t => by
    refine tG.mono (tG.bnd (r := rL X.K) t) fun xs H1 ⟨ds, e1, F1, fp1, S1, r1, q1⟩ => ?_
    by_cases hz : few ds.length = true
    · rw [if_pos hz] at q1
      refine ⟨by rw [RpL.length r1]; exact few_le hz, fun p hp => ?_⟩
      exact AtG.mkM S1 q1 hp (Own.ls (fp := []) upd_same (OwnL.ims r1))
    · rw [if_neg hz] at q1
      exact q1.elim
theorem dm_dt : DM X W bv (.Dict [] [] pos) dtM := pe_imp pe_dnewT fun σ H Q ⟨e, F, fp, S, q⟩ p hp => AtG.mkM S q hp (Own.dt (fp := []) upd_same rfl .nil)
/-- data, as a thing to own: flat or not, nobody changes it -/
def imM (f : EM D) : EM M := bnd f fun d => ret (.im d)
end
end FD
/-! FD: what is owned, read and changed in place. -/
namespace FD
variable [TabT]
open PySem L2
/-- slot i holds something -/
def has (i : Nat) (e : Env) : Bool := match e[i]? with
  | some (some _) => true
  | _ => false
def chk {α : Type} (i : Nat) (f : EM α) : EM α := fun e => if has i e then f e else .no
/-- what slot i holds, as data, left as it is -/
def peekD (i : Nat) (e : Env) : Option D := match e[i]? with
  | some (some m) => m.toD
  | _ => none
/-- an operation whose answer has no address -/
def OpP (K : PySem.W.Frag) (r : R2) (g : D → D → Option D) : Prop := ∀ (F H : Hp) (x y : V) (d1 d2 d : D) (Q : VK), Sub F H → Rp K F x d1 → Rp K F y d2 → g d1 d2 = some d → flatD d = true ∧ (Q (flatOf d) H → r x y H Q)
section
variable {K : PySem.W.Frag} {W : WX} {bv : Nat → Option V} {e : Env} {σ : L2.St} {F H : Hp} {fp : Nat → List Addr} {α τ : Type}
theorem chk_tG {i : Nat} {R : RG τ α} {f : EM α} {Q : τ → Hp → Prop} (t : tG K W bv R (chk i f) σ H Q) : ∃ v, σ[i]? = some (some v) ∧ tG K W bv R f σ H Q := by
  obtain ⟨e, F, fp, S, q⟩ := t
  unfold AtG chk has at q
  cases h : e[i]? with
  | none => rw [h] at q; exact q.elim
  | some o =>
    cases o with
    | none => rw [h] at q; exact q.elim
    | some m =>
      rw [h] at q
      obtain ⟨v, hv, _⟩ := S.own i m h
      exact ⟨v, hv, e, F, fp, S, q⟩
theorem chk_S {i : Nat} {f : EM Flow} {D : Ends} (t : tS K W bv (chk i f) D σ H) : ∃ v, σ[i]? = some (some v) ∧ tS K W bv f D σ H := by
  obtain ⟨e, F, fp, S, q⟩ := t
  unfold AtS chk has at q
  cases h : e[i]? with
  | none => rw [h] at q; exact q.elim
  | some o =>
    cases o with
    | none => rw [h] at q; exact q.elim
    | some m =>
      rw [h] at q
      obtain ⟨v, hv, _⟩ := S.own i m h
      exact ⟨v, hv, e, F, fp, S, q⟩
/-- the peeked data, known in a heap between F and H -/
theorem SS.peek {i : Nat} {d : D} (S : SS K bv e σ F H fp) (h : peekD i e = some d) : ∃ v, σ[i]? = some (some v) ∧ Rp K (ov H F (fp i)) v d ∧ Sub F (ov H F (fp i)) ∧ Sub (ov H F (fp i)) H := by
  unfold peekD at h
  cases he : e[i]? with
  | none => rw [he] at h; cases h
  | some o =>
    cases o with
    | none => rw [he] at h; cases h
    | some m =>
      rw [he] at h
      obtain ⟨v, hv, o⟩ := S.own i m he
      exact ⟨v, hv, o.frozen (fun a z => S.fr i a z) h, Sub.ov fun a z => S.fr i a z, S.sub.of_ov⟩
end
section
variable {X : Cx} {W : WX} {bv : Nat → Option V} {pos p px : Pos} {a b : Expr} {es : List Expr} {fa fb fc : EM D} {fs : EM (List D)} {x : Str}
/-- a function of what slot i holds, which is left as it is -/
def pk {α : Type} (i : Nat) (g : D → Option α) : EM α := fun e => match peekD i e with
  | some d => lif (g d) e
  | none => .no
theorem AtG.pk {K : PySem.W.Frag} {e : Env} {σ : L2.St} {F H : Hp} {fp : Nat → List Addr} {α τ : Type} {R : RG τ α} {i : Nat} {g : D → Option α} {Q : τ → Hp → Prop} (h : AtG K W bv R (FD.pk i g) e σ F H fp Q) : ∃ d z, peekD i e = some d ∧ g d = some z ∧ AtG K W bv R (FD.ret z) e σ F H fp Q := by
  unfold AtG FD.pk at h
  cases hp : peekD i e with
  | none => rw [hp] at h; exact h.elim
  | some d =>
    rw [hp] at h
    cases hg : g d with
    | none => dsimp only at h; rw [hg] at h; exact h.elim
    | some z => dsimp only at h; rw [hg] at h; exact ⟨d, z, rfl, hg, h⟩
/-- xs op e, e op xs; the slot is left as it is -/
def pkL (i : Nat) (g : D → D → Option D) (fb : EM D) : EM D := chk i (bnd fb fun y => pk i fun d => g d y)
def pkR (i : Nat) (g : D → D → Option D) (fa : EM D) : EM D := bnd fa fun y => chk i (pk i fun d => g y d)
theorem pkL_of {K : PySem.W.Frag} {σ : L2.St} {H : Hp} {i : Nat} {r : R2} {g : D → D → Option D} {Q : VK} (h : OpP K r g) (t : tE K W bv (pkL i g fb) σ H Q) : tOp r (tVar i) (tE K W bv fb) σ H Q := by
  obtain ⟨v, hv, e, F, fp, S, q⟩ := chk_tG t
  refine ⟨v, hv, tG.mono (AtG.bnd' (r := rD K) S q) fun y H2 ⟨d2, e2, F2, fp2, s2, S2, r2, q2⟩ => ?_⟩
  obtain ⟨d, z, hp, hg, q3⟩ := q2.pk
  obtain ⟨w, hw, rw', s3, s4⟩ := S2.peek hp
  rw [hv] at hw
  cases hw
  obtain ⟨fl, k⟩ := h _ H2 v y d d2 z Q s4 rw' (Rp.mono s3 r2) hg
  exact k (AtG.here (r := rD K) S2 q3 (Rp.flat fl))
theorem op_neP : OpP X.K (fun x y H Q => rNe x y H Q ∨ rNeD X.K x y H Q) neD := by
  intro F H x y d1 d2 d Q s r1 r2 hg
  unfold neD eqOk at hg
  split at hg
  · rename_i hz
    cases hg
    refine ⟨rfl, fun q => ?_⟩
    by_cases h1 : scalD d1 d2 = true
    · have z := scal_eqv h1
      simp only [scalD, Bool.and_eq_true] at h1
      refine .inl ?_
      rw [r1.flat_eq h1.1.1, r2.flat_eq h1.1.2]
      refine ⟨h1.2, ?_⟩
      rw [z]
      exact q
    · rw [Bool.not_eq_true] at h1
      rw [h1, Bool.false_or, Bool.and_eq_true] at hz
      exact .inr ⟨d1, d2, r1.dp s (lay_of hz.1), r2.dp s (lay_of hz.2), hz.1, hz.2, q⟩
  · cases hg
/-! ### len(xs), xs[k] -/
def pkLen (i : Nat) : EM D := chk i (pk i fun d => lenD [d])
theorem de_lenP (i : Nat) (hm : X.mg "len" = none) (hN : X.N[i]? = some x := by rfl) (hv : Vis X.env.scope x := by first | exact Or.inl rfl | exact Or.inr (Or.inl rfl) | exact Or.inr (Or.inr rfl)) (hd : (x == ("__debug__" : Str)) = false := by decide) (hcd : (x == ("__classdict__" : Str)) = false := by decide)
    (hg : Gl X "len" := by rfl) (he : starEach [.Name x px] X.env = (false, eval (.Name x px) X.env) :: starEach [] X.env := by rfl) :
    DE X W bv (.Call (.Name "len" p) [.Name x px] [] pos) (pkLen i) :=
  pe_imp (pe_callB (CallR.or call_len_seq (CallR.or call_len_str call_lenR)) hg hm (by rfl) (pa_cons (pe_var hN hv hd hcd) pa_nil he) (by decide) (by decide) he rfl) fun σ H Q t => by
    obtain ⟨v, hv, e, F, fp, S, q⟩ := chk_tG t
    refine ⟨v, hv, ?_⟩
    obtain ⟨d, z, hp, hg, q3⟩ := q.pk
    obtain ⟨w, hw, rw', s3, s4⟩ := S.peek hp
    rw [hv] at hw
    cases hw
    have fin : ∀ n : Int, z = .int n → Q (.int n) H := fun n h => by subst h; exact AtG.here (r := rD X.K) S q3 (.int n)
    cases rw' with
    | lst h rl =>
      refine .inl ⟨_, _, rfl, .inl (s4.l h), ?_⟩
      rw [rl.length]
      exact fin _ (Option.some.inj hg).symm
    | tup h rl =>
      refine .inl ⟨_, _, rfl, .inr (s4.t h), ?_⟩
      rw [rl.length]
      exact fin _ (Option.some.inj hg).symm
    | str z' =>
      simp only [lenD] at hg
      split at hg
      · rename_i hz
        exact .inr (.inl ⟨z', rfl, few_le hz, fin _ (Option.some.inj hg).symm⟩)
      · cases hg
    | dK h k rl =>
      rename_i kvs kds
      simp only [lenD, qKB_dK, Bool.false_eq_true, if_false] at hg
      refine .inr (.inr ⟨_, rfl, .inl ⟨_, s4.rd _ _ h, fin _ ?_⟩⟩)
      have : kvs.length = kds.length := by simpa using congrArg List.length k
      rw [this, ← List.length_map (as := kds) (f := fun p => (keyD p.1, p.2))]
      exact (Option.some.inj hg).symm
    | dT h k rl =>
      rename_i kvs kds
      simp only [lenD, qKB_dT, Bool.false_eq_true, if_false] at hg
      refine .inr (.inr ⟨_, rfl, .inr ⟨_, s4.rd _ _ h, fin _ ?_⟩⟩)
      have : kvs.length = kds.length := by simpa using congrArg List.length k
      rw [this, ← List.length_map (as := kds) (f := fun p => (PyData.tuple (p.1.map keyD), p.2))]
      exact (Option.some.inj hg).symm
    | kt h n rl =>
      rename_i ds
      simp only [lenD, ktD, qKB_kt, Bool.false_eq_true, if_false] at hg
      refine .inl ⟨_, _, rfl, .inr (.inr h), fin _ ?_⟩
      rw [rl.length, ← List.length_map (as := ds) (f := fun d => (PyData.list [], d))]
      exact (Option.some.inj hg).symm
    | _ => cases hg
/-- an owned list's item that is data -/
def itemM (i : Nat) (k : Int) (e : Env) : Option D := match e[i]? with
  | some (some (.ls ms)) => match atI ms k with
    | some (.im d) => some d
    | _ => none
  | _ => none
theorem OwnL.get {K : PySem.W.Frag} {F H : Hp} : ∀ {vs : List V} {ms : List M} {fpl : List Addr} {j : Nat} {m : M}, OwnL K F H vs ms fpl → ms[j]? = some m → ∃ v l, vs[j]? = some v ∧ Own K F H v m l ∧ ∀ b ∈ l, b ∈ fpl
  | _, _, _, _, _, .nil, h => by simp at h
  | _, _, _, 0, _, .cons h t, q => by
    simp at q
    subst q
    exact ⟨_, _, rfl, h, fun b hb => List.mem_append_left _ hb⟩
  | _, _, _, j + 1, _, .cons h t, q => by
    obtain ⟨v, l, h1, h2, h3⟩ := OwnL.get (j := j) t (by simpa using q)
    exact ⟨v, l, by simpa using h1, h2, fun b hb => List.mem_append_right _ (h3 b hb)⟩
theorem item_at {K : PySem.W.Frag} {e : Env} {σ : L2.St} {F H : Hp} {fp : Nat → List Addr} {i : Nat} {k : Int} {d : D} (S : SS K bv e σ F H fp) (h : itemM i k e = some d) : ∃ a vs v, σ[i]? = some (some (.ref a)) ∧ H a = some (.lst vs) ∧ atI vs k = some v ∧ Rp K F v d := by
  unfold itemM at h
  split at h
  · rename_i ms he
    split at h
    · rename_i d' hk
      cases h
      obtain ⟨a, vs, fpl, h1, h2, h3, h4, h5⟩ := S.lsAt he
      unfold atI at hk
      cases hj : ixN ms.length k with
      | none => rw [hj] at hk; cases hk
      | some j =>
        rw [hj] at hk
        obtain ⟨v, l, g1, g2, _⟩ := h4.get (j := j) hk
        refine ⟨a, vs, v, h1, h2, ?_, by cases g2; assumption⟩
        unfold atI
        rw [h4.length, hj]
        exact g1
    · cases h
  · cases h
end
end FD
/-! FD: in on what is owned; append, item stores, dicts. -/
namespace FD
variable [TabT]
open PySem L2
section
variable {X : Cx} {W : WX} {bv : Nat → Option V} {pos p px apos : Pos} {a b c : Expr} {es : List Expr} {fa fb fc : EM D} {fs : EM (List D)} {x : Str}
/-! ### x in xs, an owned list -/
/-! ### xs.append(e) -/
def isLs (i : Nat) (e : Env) : Bool := match e[i]? with
  | some (some (.ls _)) => true
  | _ => false
def appM (i : Nat) (d : D) : EM Flow := fun e => match e[i]? with
  | some (some (.ls ms)) => if few (ms.length + 1) then .ok .nxt (e.set i (some (.ls (ms ++ [.im d])))) else .no
  | _ => .no
def appS (i : Nat) (f : EM D) : EM Flow := fun e => if isLs i e then bnd f (fun d => appM i d) e else .no
theorem isLs_at {e : Env} {i : Nat} (h : isLs i e = true) : ∃ ms, e[i]? = some (some (.ls ms)) := by
  unfold isLs at h
  split at h
  · rename_i ms he; exact ⟨ms, he⟩
  · cases h
theorem ds_append (i : Nat) (h : DE X W bv a fa) (hN : X.N[i]? = some x := by rfl) (hv : Vis X.env.scope x := by first | exact Or.inl rfl | exact Or.inr (Or.inl rfl) | exact Or.inr (Or.inr rfl)) (hd : (x == ("__debug__" : Str)) = false := by decide) (hcd : (x == ("__classdict__" : Str)) = false := by decide)
    (hbase : attributeBase (.Name x px) "append" X.env (eval (.Name x px) X.env) = eval (.Name x px) X.env := by rfl)
    (hfew : ((backTo p (starEach [a] X.env)).all (fun x => !x.1) && (backToKw p (keywordEach [] X.env)).all (fun x => x.1.isSome) && decide (([a] : List Expr).length + ([] : List Keyword).length + (if ([] : List Keyword).isEmpty then 0 else 1) < 30)) = true := by rfl)
    (hline : (apos.endLine == p.line) = true := by rfl) (hs : starEach [a] X.env = (false, eval a X.env) :: starEach [] X.env := by rfl) (hpl : (backTo p (starEach [] X.env)).any (·.1) = false := by rfl)
    (hsw : swapsWith (.Call (.Attribute (.Name x px) "append" apos) [a] [] p) none pos.line X.env = pure false := by rfl) :
    DS X W bv (.Expr (.Call (.Attribute (.Name x px) "append" apos) [a] [] p) pos) (appS i fa) :=
  ps_imp (ps_expr (pe_bm PySem.F.plainAttrs_list PySem.F.slot_list_append PySem.F.type_list_append mt_append (pe_var hN hv hd hcd) (pa_cons h pa_nil hs) hbase hfew hline hs hpl) hsw) fun D σ H ⟨e, F, fp, S, q⟩ => by
    unfold AtS appS at q
    by_cases hl : isLs i e = true
    · rw [if_pos hl] at q
      obtain ⟨ms, he⟩ := isLs_at hl
      obtain ⟨a0, vs, fpl, h1, h2, _⟩ := S.lsAt he
      refine ⟨_, h1, .inl ⟨rfl, _, SqL.of h2⟩, ?_⟩
      refine tG.mono (AtS.bnd' (r := rD X.K) S q) fun v H1 ⟨d, e1, F1, fp1, _, _, S1, r1, q1⟩ => ?_
      unfold AtS appM at q1
      split at q1
      rotate_left
      exact q1.elim
      rename_i ms1 he1
      obtain ⟨a1, vs1, fpl1, g1, g2, g3, g4, g5⟩ := S1.lsAt he1
      rw [h1] at g1
      cases g1
      split at q1
      rotate_left
      exact q1.elim
      rename_i hz
      have hlen := g4.length
      have hz' := few_le hz
      refine ⟨_, _, _, rfl, rfl, g2, by omega, ?_⟩
      obtain ⟨S2, s2⟩ := S1.upH (m := .ls (ms1 ++ [.im d])) (List.getElem?_eq_some_iff.mp he1).1 h1 g3 (.ls upd_same ((g4.snoc r1).other g5))
      exact q1 σ F1 _ fp1 s2 S2
    · rw [if_neg hl] at q
      exact q.elim
/-! ### xs[k] = v -/
end
end FD
/-! FD: dicts. -/
namespace FD
variable [TabT]
open PySem L2
def kOf : D → Option Key
  | .int i => some (.inl i)
  | .str x => some (.inr x)
  | _ => none
def kAll : List D → Option (List Key)
  | [] => some []
  | d :: ds => (kOf d).bind fun k => (kAll ds).map (k :: ·)
def ksOf : D → Option (List Key)
  | .tuple ds => kAll ds
  | _ => none
theorem kOf_keyD (k : Key) : kOf (keyD k) = some k := by cases k <;> rfl
theorem kAll_keyD : ∀ ks : List Key, kAll (ks.map keyD) = some ks
  | [] => rfl
  | k :: ks => by
    show (kOf (keyD k)).bind (fun k => (kAll (ks.map keyD)).map (k :: ·)) = _
    rw [kOf_keyD, kAll_keyD ks]
    rfl
def dictK : List (D × D) → Option (List (Key × D))
  | [] => some []
  | p :: r => (kOf p.1).bind fun k => (dictK r).map ((k, p.2) :: ·)
def dictT : List (D × D) → Option (List (List Key × D))
  | [] => some []
  | p :: r => (ksOf p.1).bind fun k => (dictT r).map ((k, p.2) :: ·)
theorem dictK_of : ∀ kds : List (Key × D), dictK (kds.map fun p => (keyD p.1, p.2)) = some kds
  | [] => rfl
  | p :: r => by
    show (kOf (keyD p.1)).bind (fun k => (dictK (r.map fun p => (keyD p.1, p.2))).map ((k, p.2) :: ·)) = _
    rw [kOf_keyD, dictK_of r]
    rfl
theorem dictT_of : ∀ kds : List (List Key × D), dictT (kds.map fun p => (PyData.tuple (p.1.map keyD), p.2)) = some kds
  | [] => rfl
  | p :: r => by
    show (kAll (p.1.map keyD)).bind (fun k => (dictT (r.map fun p => (PyData.tuple (p.1.map keyD), p.2))).map ((k, p.2) :: ·)) = _
    rw [kAll_keyD, dictT_of r]
    rfl
theorem dictK_kt : ∀ {ds : List D}, ds ≠ [] → dictK (ds.map fun d => (.list [], d)) = none
  | [], h => absurd rfl h
  | _ :: _, _ => rfl
theorem dictT_kt : ∀ {ds : List D}, ds ≠ [] → dictT (ds.map fun d => (.list [], d)) = none
  | [], h => absurd rfl h
  | _ :: _, _ => rfl
theorem dictT_K : ∀ {kds : List (Key × D)} {l : List (List Key × D)}, dictT (kds.map fun p => (keyD p.1, p.2)) = some l → kds = [] ∧ l = []
  | [], _, h => by cases h; exact ⟨rfl, rfl⟩
  | p :: r, _, h => by
    obtain ⟨k, hk, _⟩ := Option.bind_eq_some_iff.mp h
    obtain ⟨q, _⟩ := p
    cases q <;> cases hk
theorem dictK_T : ∀ {kds : List (List Key × D)} {l : List (Key × D)}, dictK (kds.map fun p => (PyData.tuple (p.1.map keyD), p.2)) = some l → kds = [] ∧ l = []
  | [], _, h => by cases h; exact ⟨rfl, rfl⟩
  | p :: r, _, h => by
    obtain ⟨k, hk, _⟩ := Option.bind_eq_some_iff.mp h
    cases hk
section
variable {κ α β : Type} [DecidableEq κ]
def lookK (kvs : List (κ × α)) (k : κ) : Option α := (kvs.find? fun kv => decide (kv.1 = k)).map (·.2)
def putKK (kvs : List (κ × α)) (k : κ) (v : α) : List (κ × α) := if (kvs.any fun kv => decide (kv.1 = k)) = true then kvs.map (fun kv => if kv.1 = k then (kv.1, v) else kv) else kvs ++ [(k, v)]
theorem lookK_pos {p : κ × α} {r : List (κ × α)} {k : κ} (e : p.1 = k) : lookK (p :: r) k = some p.2 := by simp [lookK, List.find?_cons, e]
theorem lookK_neg {p : κ × α} {r : List (κ × α)} {k : κ} (e : ¬ p.1 = k) : lookK (p :: r) k = lookK r k := by simp [lookK, List.find?_cons, e]
theorem keys_any {k : κ} : ∀ {as : List (κ × α)} {bs : List (κ × β)}, as.map (·.1) = bs.map (·.1) → (as.any fun kv => decide (kv.1 = k)) = (bs.any fun kv => decide (kv.1 = k))
  | [], [], _ => rfl
  | [], _ :: _, h => by cases h
  | _ :: _, [], h => by cases h
  | a :: as, b :: bs, h => by
    simp only [List.map_cons, List.cons.injEq] at h
    rw [List.any_cons, List.any_cons, h.1, keys_any h.2]
end
section
variable {κ : Type} [DecidableEq κ] {K : PySem.W.Frag} {F H : Hp} {k : κ}
theorem look_rp : ∀ {kvs : List (κ × V)} {kds : List (κ × D)}, kvs.map (·.1) = kds.map (·.1) → RpL K F (kvs.map (·.2)) (kds.map (·.2)) → (lookK kds k = none ∧ valV kvs k = none) ∨ ∃ v d, valV kvs k = some v ∧ lookK kds k = some d ∧ Rp K F v d
  | [], [], _, _ => .inl ⟨rfl, rfl⟩
  | [], _ :: _, h, _ => by cases h
  | _ :: _, [], h, _ => by cases h
  | a :: as, b :: bs, h, r => by
    simp only [List.map_cons, List.cons.injEq] at h
    cases r with
    | cons r1 r2 =>
      by_cases e : a.1 = k
      · exact .inr ⟨_, _, valV_pos e, lookK_pos (h.1 ▸ e), r1⟩
      · rw [valV_neg e, lookK_neg (h.1 ▸ e)]
        exact look_rp h.2 r2
theorem look_own : ∀ {kvs : List (κ × V)} {kms : List (κ × M)} {fpl : List Addr}, kvs.map (·.1) = kms.map (·.1) → OwnL K F H (kvs.map (·.2)) (kms.map (·.2)) fpl → (lookK kms k = none ∧ valV kvs k = none) ∨ ∃ v m l, valV kvs k = some v ∧ lookK kms k = some m ∧ Own K F H v m l ∧ ∀ b ∈ l, b ∈ fpl
  | [], [], _, _, _ => .inl ⟨rfl, rfl⟩
  | [], _ :: _, _, h, _ => by cases h
  | _ :: _, [], _, h, _ => by cases h
  | a :: as, b :: bs, _, h, r => by
    simp only [List.map_cons, List.cons.injEq] at h
    cases r with
    | cons r1 r2 =>
      by_cases e : a.1 = k
      · exact .inr ⟨_, _, _, valV_pos e, lookK_pos (h.1 ▸ e), r1, fun b hb => List.mem_append_left _ hb⟩
      · rw [valV_neg e, lookK_neg (h.1 ▸ e)]
        rcases look_own h.2 r2 with q | ⟨v, m, l, q1, q2, q3, q4⟩
        · exact .inl q
        · exact .inr ⟨v, m, l, q1, q2, q3, fun b hb => List.mem_append_right _ (q4 b hb)⟩
/-- what stands at k, if something does, is data -/
def imK (kms : List (κ × M)) (k : κ) : Bool := kms.all fun kv => !decide (kv.1 = k) || isIm kv.2
theorem put_own {v : V} {d : D} (r : Rp K F v d) : ∀ {kvs : List (κ × V)} {kms : List (κ × M)} {fpl : List Addr}, kvs.map (·.1) = kms.map (·.1) → OwnL K F H (kvs.map (·.2)) (kms.map (·.2)) fpl → imK kms k = true →
    (putK kvs k v).map (·.1) = (putKK kms k (.im d)).map (·.1) ∧ OwnL K F H ((putK kvs k v).map (·.2)) ((putKK kms k (.im d)).map (·.2)) fpl := by
  intro kvs kms fpl hk ho hi
  unfold putK putKK
  rw [keys_any hk]
  by_cases c : (kms.any fun kv => decide (kv.1 = k)) = true
  · rw [if_pos c, if_pos c]
    clear c
    constructor
    · have e1 : ∀ l : List (κ × V), (l.map fun kv => if kv.1 = k then (kv.1, v) else kv).map (·.1) = l.map (·.1) := fun l => by
        rw [List.map_map]
        exact List.map_congr_left fun a _ => by show (if a.1 = k then (a.1, v) else a).1 = a.1; split <;> rfl
      have e2 : ∀ l : List (κ × M), (l.map fun kv => if kv.1 = k then (kv.1, M.im d) else kv).map (·.1) = l.map (·.1) := fun l => by
        rw [List.map_map]
        exact List.map_congr_left fun a _ => by show (if a.1 = k then (a.1, M.im d) else a).1 = a.1; split <;> rfl
      rw [e1, e2, hk]
    · induction kvs generalizing kms fpl with
      | nil =>
        cases kms with
        | nil => exact ho
        | cons _ _ => cases hk
      | cons a as ih =>
        cases kms with
        | nil => cases hk
        | cons b bs =>
          obtain ⟨ak, av⟩ := a
          obtain ⟨bk, bm⟩ := b
          simp only [List.map_cons, List.cons.injEq] at hk
          simp only [imK, List.all_cons, Bool.and_eq_true] at hi
          cases ho with
          | cons o1 o2 =>
            have ih' := ih hk.2 o2 hi.2
            simp only [List.map_cons]
            by_cases e : ak = k
            · have e' : bk = k := hk.1 ▸ e
              rw [if_pos e, if_pos e']
              have : isIm bm = true := by simpa [e'] using hi.1
              cases bm with
              | im d0 =>
                cases o1
                exact OwnL.cons (fp := []) (.im r) ih'
              | _ => cases this
            · have e' : ¬ bk = k := hk.1 ▸ e
              rw [if_neg e, if_neg e']
              exact OwnL.cons o1 ih'
  · rw [if_neg c, if_neg c]
    simp only [List.map_append, List.map_cons, List.map_nil]
    exact ⟨by rw [hk], ho.snoc r⟩
end
/-! ### keys in the heap -/
theorem Rp.key {K : PySem.W.Frag} {F : Hp} {v : V} {d : D} {k : Key} (r : Rp K F v d) (h : kOf d = some k) : v = kV k := by
  cases r <;> cases h <;> rfl
theorem RpL.keys {K : PySem.W.Frag} {F : Hp} : ∀ {vs : List V} {ds : List D} {ks : List Key}, RpL K F vs ds → kAll ds = some ks → vs = ks.map kV
  | _, _, _, .nil, h => by cases h; rfl
  | _, _, _, .cons r1 r, h => by
    obtain ⟨k, hk, h2⟩ := Option.bind_eq_some_iff.mp h
    obtain ⟨ks, h3, rfl⟩ := Option.map_eq_some_iff.mp h2
    rw [List.map_cons, r1.key hk, r.keys h3]
theorem Rp.keyT {K : PySem.W.Frag} {F : Hp} {v : V} {d : D} {ks : List Key} (r : Rp K F v d) (h : ksOf d = some ks) : ∃ b, v = .ref b ∧ F b = some (.tup (ks.map kV)) := by
  cases r with
  | tup hb rl => exact ⟨_, rfl, by rw [← rl.keys h]; exact hb⟩
  | _ => cases h
/-- what a dict holds at y, told of the empty one too -/
def DGetX (H : Hp) (a : Addr) (y : V) (r : Option V) : Prop := DGet H a y r ∨ (r = none ∧ Rd H a (.dK []) ∧ ∃ (b : Addr) (k : List Key), y = .ref b ∧ H b = some (.tup (k.map kV))) ∨ (r = none ∧ Rd H a (.dT []) ∧ ∃ k, y = kV k)
/-- d's item at y -/
def getDD (kvs : List (D × D)) (y : D) : Option (Option D) := match kOf y with
  | some k => (dictK kvs).map fun l => lookK l k
  | none => match ksOf y with
    | some k => (dictT kvs).map fun l => lookK l k
    | none => none
theorem get_rp {K : PySem.W.Frag} {F H : Hp} (s : Sub F H) {v y : V} {kvs : List (D × D)} {yd : D} {o : Option D} (r : Rp K F v (.dict kvs)) (ry : Rp K F y yd) (h : getDD kvs yd = some o) : ∃ a ov, v = .ref a ∧ DGetX H a y ov ∧ ((o = none ∧ ov = none) ∨ ∃ d w, o = some d ∧ ov = some w ∧ Rp K F w d) := by
  unfold getDD at h
  generalize hd : PyData.dict kvs = dd at r
  cases r with
  | dK hr hk rl =>
    rename_i a kv kds
    cases hd
    split at h
    · rename_i k hky
      rw [dictK_of] at h
      cases h
      have ey := ry.key hky
      subst ey
      refine ⟨a, _, rfl, Or.inl (Or.inl ⟨kv, k, s.rd _ _ hr, rfl, rfl⟩), ?_⟩
      rcases look_rp (k := k) hk rl with ⟨e1, e2⟩ | ⟨w, d, e1, e2, e3⟩
      · exact .inl ⟨e1, e2⟩
      · exact .inr ⟨d, w, e2, e1, e3⟩
    · split at h
      · rename_i k hky
        obtain ⟨l, hl, rfl⟩ := Option.map_eq_some_iff.mp h
        obtain ⟨e1, e2⟩ := dictT_K hl
        subst e1 e2
        have e3 : kv = [] := by simpa using hk
        subst e3
        obtain ⟨b, rfl, hb⟩ := ry.keyT hky
        exact ⟨a, none, rfl, Or.inr (Or.inl ⟨rfl, s.rd _ _ hr, b, k, rfl, s.tp _ _ hb⟩), .inl ⟨rfl, rfl⟩⟩
      · cases h
  | dT hr hk rl =>
    rename_i a kv kds
    cases hd
    split at h
    · rename_i k hky
      obtain ⟨l, hl, rfl⟩ := Option.map_eq_some_iff.mp h
      obtain ⟨e1, e2⟩ := dictK_T hl
      subst e1 e2
      have e3 : kv = [] := by simpa using hk
      subst e3
      have ey := ry.key hky
      subst ey
      exact ⟨a, none, rfl, Or.inr (Or.inr ⟨rfl, s.rd _ _ hr, k, rfl⟩), .inl ⟨rfl, rfl⟩⟩
    · split at h
      · rename_i k hky
        rw [dictT_of] at h
        cases h
        obtain ⟨b, rfl, hb⟩ := ry.keyT hky
        refine ⟨a, _, rfl, Or.inl (Or.inr ⟨kv, k, b, s.rd _ _ hr, rfl, s.tp _ _ hb, rfl⟩), ?_⟩
        rcases look_rp (k := k) hk rl with ⟨e1, e2⟩ | ⟨w, d, e1, e2, e3⟩
        · exact .inl ⟨e1, e2⟩
        · exact .inr ⟨d, w, e2, e1, e3⟩
      · cases h
  | kt _ hn _ =>
    cases hd
    split at h
    · rw [dictK_kt hn] at h; cases h
    · split at h
      · rw [dictT_kt hn] at h; cases h
      · cases h
  | opq _ =>
    cases hd
    split at h
    · rw [show dictK (opqK _) = none from rfl] at h; cases h
    · split at h
      · rw [show dictT (opqK _) = none from rfl] at h; cases h
      · cases h
  | fn _ =>
    cases hd
    split at h
    · rw [show dictK (fnK _) = none from rfl] at h; cases h
    · split at h
      · rw [show dictT (fnK _) = none from rfl] at h; cases h
      · cases h
  | _ => cases hd
section
variable {X : Cx} {pins : List (Addr × Obj)} {σ : L2.St} {H : Hp} {s : Shared} {a : Addr} {y : V} {u : Value} {o : Option V} {A : Around} {E : Value → Shared → Prop}
theorem emptyH (I : Inv X pins σ H s) (e : Rd H a (.dK [])) : (a == sysModules) = false ∧ s.heap.DictOfH (tupleKind (mixKind X.prog X.w)) a [] := by
  obtain ⟨z, hd, vs, rel, dd⟩ := dk_rd I.hok e
  cases rel
  obtain ⟨ob, es, ep, h1, h2, h3, h4, h5, h6⟩ := dd
  refine ⟨hd, ob, es, ep, h1, h2, h3, ?_, (fun x hx => by cases hx), List.nodup_nil⟩
  cases h7 : es.toList with
  | nil => rfl
  | cons q qs => rw [h7] at h5; cases h5
theorem emptyK (I : Inv X pins σ H s) (e : Rd H a (.dT [])) : (a == sysModules) = false ∧ s.heap.DictOf (mixKind X.prog X.w) a [] := by
  obtain ⟨z, hd, xs, rel, dd⟩ := dt_rd I.hok e
  cases rel
  obtain ⟨ob, es, ep, h1, h2, h3, h4, h5, h6⟩ := dd
  have h7 : es = #[] := by
    have : es.toList = [] := h4
    simpa using this
  subst h7
  refine ⟨hd, ob, #[], ep, h1, h2, h3, (fun q hq => by simp at hq), .nil, List.nodup_nil⟩
theorem dx_in {neg : Bool} {Q : Value → Shared → Prop} (hu : A.units + 1 < cLine) (I : Inv X pins σ H s) (g : DGetX H a y o) (ry : RelV y u) (h : ∀ s', Inv X pins σ H s' → Q (.bool (if neg then !o.isSome else o.isSome)) s') :
    wpAny (model X.prog X.w) A (compareOp (if neg then .NotIn else .In) u (.ref a)) Q E s := by
  rcases g with g | ⟨rfl, e, b, k, rfl, eb⟩ | ⟨rfl, e, k, rfl⟩
  · cases neg
    · exact d_in hu I g ry h
    · exact d_notIn hu I g ry h
  · cases (show u = Value.ref b from ry)
    obtain ⟨hd, dd⟩ := emptyH I e
    cases neg
    · exact wpAny_in_heap (tupleKind_room_in1 hu) (key_of I.hok eb) hd dd (h _ (I.tok _))
    · exact PyProof.Rows.wpAny_notIn_heap (tupleKind_room_in1 hu) (key_of I.hok eb) hd dd (h _ (I.tok _))
  · obtain ⟨hd, dd⟩ := emptyK I e
    cases neg
    · exact wpAny_in_of (kV_is ry) hd dd.mapOf (h _ (I.tok _))
    · exact wpAny_notIn_of (kV_is ry) hd dd.mapOf (h _ (I.tok _))
end
section
variable {X : Cx} {W : WX} {bv : Nat → Option V} {pos p px apos cpos : Pos} {a b c : Expr} {es : List Expr} {fa fb fc : EM D} {fs : EM (List D)} {x : Str}
def rDIn (neg : Bool) : R2 := fun x y H Q => ∃ a o, y = .ref a ∧ DGetX H a x o ∧ Q (.bl (if neg then !o.isSome else o.isSome)) H
theorem or_din {k : Nat} (hr : Room k X.A) (neg : Bool) : OpR X (compareOp (if neg then .NotIn else .In)) (rDIn neg) := by
  intro pins s σ H x y v u Q I rx ry h
  obtain ⟨a, o, rfl, g, q⟩ := h
  cases (show u = Value.ref a from ry)
  exact dx_in (by have := hr.un; omega) I g rx fun s' I' => ⟨.bl _, H, I', rfl, q⟩
def inDD (neg : Bool) (d1 d2 : D) : Option D := match d2 with
  | .dict kvs => (getDD kvs d1).map fun o => .bool (if neg then !o.isSome else o.isSome)
  | _ => none
theorem in_dP {K : PySem.W.Frag} {neg : Bool} : OpP K (rDIn neg) (inDD neg) := by
  intro F H x y d1 d2 d Q s r1 r2 h
  unfold inDD at h
  split at h
  · obtain ⟨o, ho, rfl⟩ := Option.map_eq_some_iff.mp h
    refine ⟨rfl, fun q => ?_⟩
    obtain ⟨a, ov, rfl, g, hh⟩ := get_rp s r2 r1 ho
    refine ⟨a, ov, rfl, g, ?_⟩
    have : ov.isSome = o.isSome := by
      rcases hh with ⟨rfl, rfl⟩ | ⟨_, _, rfl, rfl, _⟩ <;> rfl
    rw [this]
    exact q
  · cases h
/-- an operation whose answer has no address serves data as it stands -/
theorem OpP.v {K : PySem.W.Frag} {r : R2} {g : D → D → Option D} (h : OpP K r g) : OpV K r g := by
  intro W bv e σ F H fp x y d1 d2 Q S r1 r2 q
  obtain ⟨d, hd, q'⟩ := q.lif
  obtain ⟨fl, k⟩ := h F H x y d1 d2 d Q S.sub r1 r2 hd
  exact k (AtG.here (r := rD K) S q' (Rp.flat fl))
/-- in, of lists, tuples, texts, dicts -/
def inA (d1 d2 : D) : Option D := match d2 with
  | .dict _ => inDD false d1 d2
  | _ => inD d1 d2
def ninA (d1 d2 : D) : Option D := match d2 with
  | .dict _ => inDD true d1 d2
  | _ => ninD d1 d2
theorem opv_cases {K : PySem.W.Frag} {r r' : R2} {g g' h : D → D → Option D} (h1 : OpV K r g) (h2 : OpV K r' g') (hh : ∀ x y, h x y = g x y ∨ h x y = g' x y) : OpV K (fun x y H Q => r x y H Q ∨ r' x y H Q) h := by
  intro W bv e σ F H fp x y d1 d2 Q S r1 r2 q
  rcases hh d1 d2 with e1 | e1
  · rw [e1] at q
    exact .inl (h1 W bv e σ F H fp x y d1 d2 Q S r1 r2 q)
  · rw [e1] at q
    exact .inr (h2 W bv e σ F H fp x y d1 d2 Q S r1 r2 q)
theorem od_inA {k : Nat} (hr : Room k X.A) : OpD X (compareOp .In) inA := by
  obtain ⟨r, h1, h2⟩ := od_in hr
  exact ⟨_, OpR.or h1 (or_din hr false), opv_cases h2 in_dP.v fun x y => by unfold inA; split <;> first | exact .inr rfl | exact .inl rfl⟩
theorem od_ninA {k : Nat} (hr : Room k X.A) : OpD X (compareOp .NotIn) ninA := by
  obtain ⟨r, h1, h2⟩ := od_nin hr
  exact ⟨_, OpR.or h1 (or_din hr true), opv_cases h2 in_dP.v fun x y => by unfold ninA; split <;> first | exact .inr rfl | exact .inl rfl⟩
end
end FD
/-! FD: two dicts, the keys tuples, compared. -/
namespace FD
variable [TabT]
open PySem L2
section
variable {prog : Program} {w : World} {κ : Type} [DecidableEq κ] {knd : HeapKind prog w κ} {A : Around} {E : Value → Shared → Prop} {s : Shared}
/-- what is told of two such dicts -/
def sameH (xa xb : List (κ × Addr × Value)) (ev : κ → Bool) : Bool := xa.all fun x => (atKey xb x.1).isSome && ev x.1
theorem at_some {xs : List (κ × Addr × Value)} {k : κ} {j : Nat} {p : Addr × Value} (hn : (xs.map (·.1)).Nodup) (h : xs[j]? = some (k, p)) : atKey xs k = some p := by
  induction xs generalizing j with
  | nil => simp at h
  | cons x xs ih =>
    rw [List.map_cons, List.nodup_cons] at hn
    cases j with
    | zero =>
      have e : x = (k, p) := by simpa using h
      subst e
      simp [atKey]
    | succ j =>
      have h' : xs[j]? = some (k, p) := by simpa using h
      have ne : ¬ x.1 = k := fun z => hn.1 (by
        rw [z]
        exact List.mem_map.mpr ⟨(k, p), List.mem_of_getElem? h', rfl⟩)
      have := ih hn.2 h'
      simpa [atKey, List.find?_cons, ne] using this
theorem at_none {xs : List (κ × Addr × Value)} {k : κ} (h : ∀ (j : Nat) (p : Addr × Value), xs[j]? ≠ some (k, p)) : atKey xs k = none := by
  cases q : atKey xs k with
  | none => rfl
  | some p =>
    unfold atKey at q
    obtain ⟨x, hx, rfl⟩ := Option.map_eq_some_iff.mp q
    obtain ⟨j, hj⟩ := List.mem_iff_getElem?.mp (List.mem_of_find?_eq_some hx)
    have hk : x.1 = k := by simpa using List.find?_some hx
    exact absurd (by rw [hj, ← hk] : xs[j]? = some (k, x.2)) (h j x.2)
theorem pairsH {nm : String} {a b : Addr} {xa xb : List (κ × Addr × Value)} {ev : κ → Bool} {Q : Bool → Shared → Prop} (hu : knd.room A) (ha : (a == sysModules) = false) (hb : (b == sysModules) = false)
    (da : s.heap.DictOfH knd a xa) (db : s.heap.DictOfH knd b xb) (hits : ∀ k p q, (k, p) ∈ xa → atKey xb k = some q → SeqAt.EqAt A s p.2 q.2 (ev k)) (h : Q (xa.length == xb.length && sameH xa xb ev) s) :
    wpAny (model prog w) A (Builtin.Dict.samePairs nm a b) Q E s := by
  obtain ⟨oa, ea, epa, ga, _, fa, la, ia, na⟩ := da
  obtain ⟨ob, eb, epb, gb, _, fb, lb, ib, nb⟩ := db
  have za : xa.length = ea.size := (size_of_entries la).symm
  have zb : xb.length = eb.size := (size_of_entries lb).symm
  unfold Builtin.Dict.samePairs Builtin.Dict.showsAll
  rw [if_neg (by rw [ha]; decide), if_neg (by rw [hb]; decide)]
  refine wpAny_bind (wpAny_pure (wpAny_bind (wpAny_pure (wpAny_bind (wpAny_dictEntries ga fa ?_)))))
  dsimp only
  refine wpAny_bind (wpAny_dictEntries gb fb ?_)
  by_cases hz : ea.size = eb.size
  · have e0 : (xa.length == xb.length) = true := by rw [za, zb, hz]; exact beq_self_eq_true _
    rw [e0, Bool.true_and] at h
    rw [if_neg (by simp [hz])]
    refine wpAny_bind (wpAny_dictEpoch ga fa (wpAny_bind ?_))
    rw [Std.Legacy.Range.forIn_eq_forIn_range']
    simp only [Std.Legacy.Range.size, Nat.sub_zero, Nat.add_sub_cancel, Nat.div_one]
    refine wpAny_forIn_list _ (fun rest q t => t = s ∧ q = (none, ()) ∧ ∃ i, rest = List.range' i (ea.size - i) ∧ i ≤ ea.size ∧ sameH xa xb ev = sameH (xa.drop i) xb ev) _ ?_ ?_ _ _ ⟨rfl, rfl, 0, by simp, Nat.zero_le _, rfl⟩
    · rintro y rest q t ⟨rfl, rfl, i, hr, hi, hpre⟩
      have lt : i < ea.size := Nat.lt_of_not_le fun z => by
        rw [Nat.sub_eq_zero_of_le z] at hr
        cases hr
      have er : ea.size - i = (ea.size - (i + 1)) + 1 := by omega
      rw [er, List.range'_succ] at hr
      injection hr with hy hrest
      subst hy
      have lx : y < xa.length := by rw [za]; exact lt
      refine wpAny_bind (wpAny_dictEntries ga fa ?_)
      rw [Array.getElem?_eq_getElem lt]
      obtain ⟨k, p, v, hx⟩ : ∃ k p v, xa[y] = (k, p, v) := ⟨_, _, _, rfl⟩
      have hin : (k, p, v) ∈ xa := hx ▸ List.getElem_mem lx
      have ent : ea[y] = ⟨knd.hash k, .ref p, v⟩ := by
        have z := entry_at la y
        rw [Array.getElem?_eq_getElem lt, List.getElem?_eq_getElem lx, hx] at z
        exact Option.some.inj z
      have hcons : xa.drop y = (k, p, v) :: xa.drop (y + 1) := by rw [← hx]; exact List.drop_eq_getElem_cons lx
      rw [hcons] at hpre
      simp only [sameH, List.all_cons] at hpre
      show wpAny _ _ (holding [ea[y].key, ea[y].val] _ >>= _) _ _ _
      rw [ent]
      refine wpAny_bind (wpAny_holding (wpAny_bind (wpAny_dictFind_heap hu (ia _ hin) gb fb lb ib nb (fun nn => ?_) fun j q2 ss => ?_)))
      · rw [at_none nn] at hpre
        have hf : Q false t := by
          have : sameH xa xb ev = false := by simpa [sameH] using hpre
          rw [this] at h
          exact h
        refine wpAny_pure ?_
        show wpAny _ _ (if (!false) = true then _ else _) _ _ _
        rw [if_pos (by decide)]
        exact wpAny_pure (wpAny_pure hf)
      · have hq := at_some nb ss
        rw [hq] at hpre
        have lj : j < eb.size := by
          rw [← zb]
          exact (List.getElem?_eq_some_iff.mp ss).1
        have ent2 : eb[j] = ⟨knd.hash k, .ref q2.1, q2.2⟩ := by
          have z := entry_at lb j
          rw [Array.getElem?_eq_getElem lj, ss] at z
          exact Option.some.inj z
        refine wpAny_bind (wpAny_dictEntries gb fb ?_)
        rw [Array.getElem?_eq_getElem lj]
        have hit := hits k (p, v) q2 hin hq
        rw [show q2.2 = eb[j].val by rw [ent2]] at hit
        refine wpAny_holding (hit prog w _ _ ?_)
        cases he : ev k with
        | false =>
          rw [he] at hpre
          have : sameH xa xb ev = false := by simpa [sameH] using hpre
          rw [this] at h
          show wpAny _ _ (if (!false) = true then _ else _) _ _ _
          rw [if_pos (by decide)]
          exact wpAny_pure (wpAny_pure h)
        | true =>
          rw [he] at hpre
          show wpAny _ _ (if (!true) = true then _ else _) _ _ _
          rw [if_neg (by decide)]
          refine wpAny_bind (wpAny_dictEpoch ga fa ?_)
          rw [if_neg (by simp)]
          exact wpAny_pure ⟨rfl, rfl, y + 1, hrest, lt, by simpa [sameH] using hpre⟩
    · rintro q t ⟨rfl, rfl, i, hr, hi, hpre⟩
      have ei : i = ea.size := by
        rcases Nat.lt_or_ge i ea.size with z | z
        · rw [show ea.size - i = (ea.size - (i + 1)) + 1 by omega, List.range'_succ] at hr
          cases hr
        · exact Nat.le_antisymm hi z
      rw [ei, ← za, List.drop_length] at hpre
      have ht : sameH xa xb ev = true := hpre
      rw [ht] at h
      exact wpAny_pure h
  · have e0 : (xa.length == xb.length) = false := by rw [za, zb]; simpa using hz
    rw [e0, Bool.false_and] at h
    rw [if_pos (by simpa using hz)]
    exact wpAny_bind (wpAny_rule (wpAny_pure h))
theorem eqH {a b : Addr} {xa xb : List (κ × Addr × Value)} {ev : κ → Bool} {Q : Value → Shared → Prop} (hu : knd.room A.in1) (hc : A.units < cLine) (ha : (a == sysModules) = false) (hb : (b == sysModules) = false)
    (da : s.heap.DictOfH knd a xa) (db : s.heap.DictOfH knd b xb) (hits : ∀ k p q, (k, p) ∈ xa → atKey xb k = some q → SeqAt.EqAt A.in1 s p.2 q.2 (ev k)) (h : Q (.bool (xa.length == xb.length && sameH xa xb ev)) s) :
    wpAny (model prog w) A (compareOp .Eq (.ref a) (.ref b)) Q E s := by
  refine wpAny_richCompare_same_room (op := .Eq) da.typeIs db.typeIs PySem.F.slot_dict_eq (wpAny_call_entry PySem.F.slot_dict_eq da.typeIs PySem.F.entry_dict_eq ?_ (PySem.F.args_dict_eq_2 _ _)) hc
  show wpAny _ _ (Builtin.Dict.dictSlotArgs "__eq__" ⟨[.ref a, .ref b], []⟩ >>= _) _ _ s
  unfold Builtin.Dict.dictSlotArgs
  refine wpAny_bind (wpAny_bind (wpAny_notOrdered_dict da.typeIs (wpAny_pure ?_)))
  refine wpAny_bind (wpAny_isInstance (T := "dict") db.typeIs PySem.F.sub_dict_dict ?_)
  simp only [Bool.not_true, Bool.false_eq_true, if_false]
  refine wpAny_bind (wpAny_pure (wpAny_bind (wpAny_pure (wpAny_bind (pairsH hu ha hb da db hits (wpAny_pure ⟨_, rfl, ?_, ?_⟩))))))
  · exact fun x => nomatch x
  · simpa using h
end
end FD
/-! FD: dicts as data and as what is owned: ==, [], get, stores. -/
namespace FD
variable [TabT]
open PySem L2
section
variable {X : Cx} {W : WX} {bv : Nat → Option V} {pos p px apos cpos : Pos} {a b c : Expr} {es : List Expr} {fa fb fc : EM D} {fs : EM (List D)} {x : Str}
/-! ### d == e -/
/-- data without an address that can be laid -/
def okV (d : D) : Bool := flatD d && d.canLay0
/-- equal dicts, the keys tuples, the values without an address -/
def eqT (ka kb : List (List Key × D)) : Bool := (ka.length == kb.length) && ka.all fun q => match lookK kb q.1 with
  | some y => PyData.eqv q.2 y
  | none => false
def eqDT (d1 d2 : D) : Option D := match d1, d2 with
  | .dict k1, .dict k2 => (dictT k1).bind fun l1 => (dictT k2).bind fun l2 => if (l1.all fun q => okV q.2) && (l2.all fun q => okV q.2) then some (.bool (eqT l1 l2)) else none
  | _, _ => none
theorem flat_reads {K : PySem.W.Frag} {F : Hp} {h : Heap} {v : V} {u : Value} {d : D} (r : Rp K F v d) (f : flatD d = true) (ru : RelV v u) : Reads h u d [] := by
  cases r with
  | non => cases (show u = Value.none from ru); exact .none
  | bl b => cases (show u = Value.bool b from ru); exact .bool b
  | int i => obtain ⟨t, rfl⟩ := ru; exact .int i t
  | str x => obtain ⟨t, rfl⟩ := ru; exact .str x t
  | _ => cases f
theorem valV_map_flat {k : List Key} : ∀ la : List (List Key × D), valV (la.map fun q => (q.1, flatOf q.2)) k = (lookK la k).map flatOf
  | [] => rfl
  | q :: la => by
    rw [List.map_cons]
    by_cases e : q.1 = k
    · rw [valV_pos (p := (q.1, flatOf q.2)) e, lookK_pos e]; rfl
    · rw [valV_neg (p := (q.1, flatOf q.2)) e, lookK_neg e, valV_map_flat la]
theorem look_mem {κ α : Type} [DecidableEq κ] {k : κ} {v : α} : ∀ {la : List (κ × α)}, (la.map (·.1)).Nodup → (k, v) ∈ la → lookK la k = some v
  | [], _, h => by cases h
  | q :: la, hn, h => by
    rw [List.map_cons, List.nodup_cons] at hn
    rcases List.mem_cons.mp h with e | h
    · subst e; exact lookK_pos rfl
    · rw [lookK_neg fun z => hn.1 (by rw [z]; exact List.mem_map.mpr ⟨_, h, rfl⟩)]
      exact look_mem hn.2 h
theorem lookK_in {κ α : Type} [DecidableEq κ] {k : κ} {v : α} {la : List (κ × α)} (h : lookK la k = some v) : (k, v) ∈ la := by
  unfold lookK at h
  obtain ⟨q, hq, rfl⟩ := Option.map_eq_some_iff.mp h
  have e : q.1 = k := by simpa using List.find?_some hq
  rw [← e]
  exact List.mem_of_find?_eq_some hq
def RdT (H : Hp) (a : Addr) (la : List (List Key × D)) : Prop := Rd H a (.dT (la.map fun q => (q.1, flatOf q.2))) ∨ (la = [] ∧ Rd H a (.dK []))
theorem RdT.at {pins : List (Addr × Obj)} {σ : L2.St} {H : Hp} {s : Shared} {a : Addr} {la : List (List Key × D)} (I : Inv X pins σ H s) (h : RdT H a la) : (a == sysModules) = false ∧ ∃ xs, KT H (la.map fun q => (q.1, flatOf q.2)) xs ∧ s.heap.DictOfH (tupleKind (mixKind X.prog X.w)) a xs := by
  rcases h with h | ⟨rfl, h⟩
  · obtain ⟨_, h2, h3⟩ := dt_rd I.hok h
    exact ⟨h2, h3⟩
  · obtain ⟨h2, h3⟩ := emptyH I h
    exact ⟨h2, [], .nil, h3⟩
def rEqT : R2 := fun x y H Q => ∃ (a b : Addr) (la lb : List (List Key × D)), x = .ref a ∧ y = .ref b ∧ RdT H a la ∧ RdT H b lb ∧
  (la.all fun q => okV q.2) = true ∧ (lb.all fun q => okV q.2) = true ∧ Q (.bl (eqT la lb)) H
theorem KT.keysEq {H : Hp} : ∀ {kvs : List (List Key × V)} {xs : List (List Key × Addr × Value)}, KT H kvs xs → xs.map (·.1) = kvs.map (·.1)
  | _, _, .nil => rfl
  | _, _, .cons h t => by rw [List.map_cons, List.map_cons, KT.keysEq t, h.1]
theorem or_eqT {k : Nat} (hr : Room k X.A) : OpR X (compareOp .Eq) rEqT := by
  have hu : X.A.units + 1 < cLine := by have := hr.un; omega
  intro pins s σ H x y v u Q I rx ry h
  obtain ⟨a, b, la, lb, rfl, rfl, h1, h2, f1, f2, q⟩ := h
  cases (show v = Value.ref a from rx)
  cases (show u = Value.ref b from ry)
  obtain ⟨m1, xa, ra, da⟩ := h1.at I
  obtain ⟨m2, xb, rb, db⟩ := h2.at I
  have na : (xa.map (·.1)).Nodup := by obtain ⟨_, _, _, _, _, _, _, _, n⟩ := da; exact n
  have ka : xa.map (·.1) = la.map (·.1) := by rw [KT.keysEq ra, List.map_map]; rfl
  have lena : xa.length = la.length := by simpa using congrArg List.length ka
  have lenb : xb.length = lb.length := by have := congrArg List.length (KT.keysEq rb); simpa using this
  let ev : List Key → Bool := fun k => match lookK la k, lookK lb k with
    | some d, some e => PyData.eqv d e
    | _, _ => false
  have hB : ∀ k, (atKey xb k).isSome = (lookK lb k).isSome := fun k => by
    have z := (rb.val k).isSome_eq
    rw [valV_map_flat, Option.isSome_map, Option.isSome_map] at z
    exact z.symm
  have key : sameH xa xb ev = la.all fun q => match lookK lb q.1 with
      | some y => PyData.eqv q.2 y
      | none => false := by
    have e1 : sameH xa xb ev = (xa.map (·.1)).all fun k => (lookK lb k).isSome && ev k := by
      unfold sameH
      rw [List.all_map]
      congr 1
      funext t
      show ((atKey xb t.1).isSome && ev t.1) = ((lookK lb t.1).isSome && ev t.1)
      rw [hB]
    rw [e1, ka, List.all_map]
    rw [Bool.eq_iff_iff, List.all_eq_true, List.all_eq_true]
    refine forall_congr' fun q => imp_congr_right fun hq => ?_
    have e2 : lookK la q.1 = some q.2 := look_mem (ka ▸ na) hq
    show ((lookK lb q.1).isSome && ev q.1) = true ↔ _
    simp only [ev, e2]
    cases lookK lb q.1 <;> simp
  refine eqH (ev := ev) (tupleKind_room_in1 hu) (by omega) m1 m2 da db (fun k p q hp hq => ?_) ?_
  · have pa : atKey xa k = some p := by
      obtain ⟨j, hj⟩ := List.mem_iff_getElem?.mp hp
      exact at_some na hj
    have va := ra.val k
    have vb := rb.val k
    rw [pa, valV_map_flat] at va
    rw [hq, valV_map_flat] at vb
    simp only [ev]
    cases e1 : lookK la k with
    | none => rw [e1] at va; exact va.elim
    | some d =>
      cases e2 : lookK lb k with
      | none => rw [e2] at vb; exact vb.elim
      | some e =>
        rw [e1] at va
        rw [e2] at vb
        have ⟨fd, cd⟩ := Bool.and_eq_true_iff.mp ((List.all_eq_true.mp f1) _ (lookK_in e1))
        have ⟨fe, ce⟩ := Bool.and_eq_true_iff.mp ((List.all_eq_true.mp f2) _ (lookK_in e2))
        have r1 := flat_reads (h := s.heap) (Rp.flat (K := X.K) (F := fun _ => none) fd) fd va
        have r2 := flat_reads (h := s.heap) (Rp.flat (K := X.K) (F := fun _ => none) fe) fe vb
        refine SeqAt.eqAt_reads d e _ s _ _ _ _ r1 r2 cd ce ?_
        have : d.depth = 0 := by cases d <;> first | (simp [PyData.depth]; done) | cases fd
        rw [this, Nat.zero_min]
        show X.A.units + 1 + 0 < cLine
        omega
  · refine ⟨.bl (eqT la lb), H, I, ?_, q⟩
    show Value.bool _ = Value.bool _
    rw [key, lena, lenb]
    rfl
theorem flat_vals {K : PySem.W.Frag} {F : Hp} : ∀ {kvs : List (List Key × V)} {la : List (List Key × D)}, kvs.map (·.1) = la.map (·.1) → RpL K F (kvs.map (·.2)) (la.map (·.2)) → (la.all fun q => okV q.2) = true → kvs = la.map fun q => (q.1, flatOf q.2)
  | [], [], _, _, _ => rfl
  | [], _ :: _, h, _, _ => by cases h
  | _ :: _, [], h, _, _ => by cases h
  | a :: as, b :: bs, h, r, f => by
    simp only [List.map_cons, List.cons.injEq] at h
    simp only [List.all_cons, Bool.and_eq_true] at f
    cases r with
    | cons r1 r2 =>
      rw [List.map_cons, ← flat_vals h.2 r2 f.2, ← r1.flat_eq (Bool.and_eq_true_iff.mp f.1).1, ← h.1]
theorem rdT_rp {K : PySem.W.Frag} {F H : Hp} {v : V} {kvs : List (D × D)} {la : List (List Key × D)} (s : Sub F H) (r : Rp K F v (.dict kvs)) (h : dictT kvs = some la) (f : (la.all fun q => okV q.2) = true) : ∃ a, v = .ref a ∧ RdT H a la := by
  generalize hd : PyData.dict kvs = dd at r
  cases r with
  | dK hr hk rl =>
    rename_i a kv kds
    cases hd
    obtain ⟨e1, e2⟩ := dictT_K h
    subst e1 e2
    have e3 : kv = [] := by simpa using hk
    subst e3
    exact ⟨a, rfl, .inr ⟨rfl, s.rd _ _ hr⟩⟩
  | dT hr hk rl =>
    rename_i a kv kds
    cases hd
    rw [dictT_of] at h
    cases h
    refine ⟨a, rfl, .inl ?_⟩
    rw [← flat_vals hk rl f]
    exact s.rd _ _ hr
  | kt _ hn _ =>
    cases hd
    rw [dictT_kt hn] at h; cases h
  | opq _ =>
    cases hd
    rw [show dictT (opqK _) = none from rfl] at h; cases h
  | fn _ =>
    cases hd
    rw [show dictT (fnK _) = none from rfl] at h; cases h
  | _ => cases hd
theorem eq_dP {K : PySem.W.Frag} : OpP K rEqT eqDT := by
  intro F H x y d1 d2 d Q s r1 r2 h
  unfold eqDT at h
  split at h
  · obtain ⟨l1, h1, h⟩ := Option.bind_eq_some_iff.mp h
    obtain ⟨l2, h2, h⟩ := Option.bind_eq_some_iff.mp h
    split at h
    · rename_i hz
      cases h
      rw [Bool.and_eq_true] at hz
      obtain ⟨a, rfl, g1⟩ := rdT_rp s r1 h1 hz.1
      obtain ⟨b, rfl, g2⟩ := rdT_rp s r2 h2 hz.2
      exact ⟨rfl, fun q => ⟨a, b, l1, l2, rfl, rfl, g1, g2, hz.1, hz.2, q⟩⟩
    · cases h
  · cases h
/-- ==, of sequences and of dicts -/
def eqA (d1 d2 : D) : Option D := match d1, d2 with
  | .dict _, .dict _ => eqDT d1 d2
  | _, _ => eqD d1 d2
theorem od_eqA {k : Nat} (hr : Room k X.A) : OpD X (compareOp .Eq) eqA := by
  obtain ⟨r, h1, h2⟩ := od_eq hr
  exact ⟨_, OpR.or h1 (or_eqT hr), opv_cases h2 eq_dP.v fun x y => by unfold eqA; split <;> first | exact .inr rfl | exact .inl rfl⟩
/-! ### d[k] -/
def rDGet : R2 := fun x y H Q => ∃ a v, x = .ref a ∧ DGet H a y (some v) ∧ Q v H
theorem ix_dict {k : Nat} (hr : Room k X.A) : IxR X rDGet := by
  have hu : X.A.units + 1 < cLine := by have := hr.un; omega
  intro value slice pins s σ H x y v u Q I rx ry h hs
  obtain ⟨a, w, rfl, g, q⟩ := h
  cases (show v = Value.ref a from rx)
  have hT := dict_typeIs I g
  unfold PyProof.Rows.subscriptTail
  refine wpAny_bind ?_
  rw [getitemInPython_of_ne hT.not_modules]
  refine wpAny_bind (wpAny_specialOf hT PySem.F.slot_dict_getitem.lookup ?_)
  have fin : wpAny (model X.prog X.w) X.A (subscripted slice false (.ref a) u) (fun r t => wpAny (model X.prog X.w) X.A (do letTemporaryGo value (.ref a) r; pure r) (EP X pins σ Q) X.xe t) X.xe s := by
    rw [hs]
    exact wpAny_operating (d_getItem hu I g ry fun w' s' I' rw' => wpAny_bind (wpAny_letTemporaryGo (wpAny_pure ⟨w, H, I', rw', q⟩)))
  first
    | exact wpAny_pure (wpAny_bind fin)
    | exact wpAny_bind (wpAny_pure (wpAny_bind fin))
    | exact wpAny_bind fin
def ixDD (d1 d2 : D) : Option D := match d1 with
  | .dict kvs => (getDD kvs d2).bind id
  | _ => none
theorem opv_dget {K : PySem.W.Frag} : OpV K rDGet ixDD := by
  intro W bv e σ F H fp x y d1 d2 Q S r1 r2 q
  obtain ⟨d, hd, q'⟩ := q.lif
  unfold ixDD at hd
  split at hd
  · obtain ⟨o, ho, hd⟩ := Option.bind_eq_some_iff.mp hd
    cases (show o = some d from hd)
    obtain ⟨a, ov, rfl, g, hh⟩ := get_rp S.sub r1 r2 ho
    rcases hh with ⟨z, _⟩ | ⟨d', w, z, rfl, rw'⟩
    · cases z
    · cases z
      rcases g with g | ⟨z, _⟩ | ⟨z, _⟩
      · exact ⟨a, w, rfl, g, AtG.here (r := rD K) S q' rw'⟩
      · cases z
      · cases z
  · cases hd
def ixA (d1 d2 : D) : Option D := match d1 with
  | .dict _ => ixDD d1 d2
  | _ => ixD d1 d2
theorem de_ixA {k : Nat} (hr : Room k X.A) (ha : DE X W bv a fa) (hb : DE X W bv b fb) (hs : PlainIx b := by exact fun _ _ => rfl) : DE X W bv (.Subscript a b pos) (bin ixA fa fb) :=
  pe_imp (pe_ix (ix_seq.or (ix_dict hr)) ha hb hs) fun σ H Q t => tOp_of (opv_cases opv_ix opv_dget fun x y => by unfold ixA; split <;> first | exact .inr rfl | exact .inl rfl) t
/-! ### an owned thing's item -/
def itemA (i : Nat) (y : D) (e : Env) : Option D := match e[i]? with
  | some (some (.ls ms)) => match y with
    | .int k => match atI ms k with
      | some (.im d) => some d
      | _ => none
    | _ => none
  | some (some (.dk kms)) => match kOf y with
    | some k => match lookK kms k with
      | some (.im d) => some d
      | _ => none
    | none => none
  | some (some (.dt kms)) => match ksOf y with
    | some k => match lookK kms k with
      | some (.im d) => some d
      | _ => none
    | none => none
  | _ => none
def pkIxA (i : Nat) (fb : EM D) : EM D := chk i (bnd fb fun y e => lif (itemA i y e) e)
theorem itemA_at {K : PySem.W.Frag} {e : Env} {σ : L2.St} {F H : Hp} {fp : Nat → List Addr} {i : Nat} {y : V} {yd d : D} {Q : VK} (S : SS K bv e σ F H fp) (ry : Rp K F y yd) (h : itemA i yd e = some d) :
    ∃ v w, σ[i]? = some (some v) ∧ Rp K F w d ∧ (Q w H → rIx K v y H Q ∨ rDGet v y H Q) := by
  unfold itemA at h
  split at h
  · rename_i ms he
    split at h
    · rename_i k
      cases ry
      obtain ⟨a, vs, v, h1, h2, h3, h4⟩ := item_at (i := i) (k := k) (d := d) S (by unfold itemM; rw [he]; exact h)
      exact ⟨_, v, h1, h4, fun q => .inl (.inl ⟨_, _, _, _, rfl, rfl, SqL.of h2, h3, q⟩)⟩
    · cases h
  · rename_i kms he
    obtain ⟨a, kvs, fpl, h1, h2, h3, h4, h5, h6⟩ := S.dkAt he
    split at h
    · rename_i k hk
      have ey := ry.key hk
      subst ey
      rcases look_own (k := k) h4 h5 with ⟨e1, _⟩ | ⟨v, m, l, e1, e2, o, _⟩
      · rw [e1] at h; cases h
      · rw [e2] at h
        split at h
        · rename_i z
          cases h
          cases z
          cases o
          refine ⟨_, v, h1, by assumption, fun q => .inr ⟨a, v, rfl, ?_, q⟩⟩
          rw [← e1]
          exact DGet.k h2
        · cases h
    · cases h
  · rename_i kms he
    obtain ⟨a, kvs, fpl, h1, h2, h3, h4, h5, h6⟩ := S.dtAt he
    split at h
    · rename_i k hk
      obtain ⟨b, rfl, hb⟩ := ry.keyT hk
      rcases look_own (k := k) h4 h5 with ⟨e1, _⟩ | ⟨v, m, l, e1, e2, o, _⟩
      · rw [e1] at h; cases h
      · rw [e2] at h
        split at h
        · rename_i z
          cases h
          cases z
          cases o
          refine ⟨_, v, h1, by assumption, fun q => .inr ⟨a, v, rfl, ?_, q⟩⟩
          rw [← e1]
          exact DGet.t h2 (S.sub.tp _ _ hb)
        · cases h
    · cases h
  · cases h
theorem de_ixPA (i : Nat) {k : Nat} (hr : Room k X.A) (hb : DE X W bv b fb) (hN : X.N[i]? = some x := by rfl) (hv : Vis X.env.scope x := by first | exact Or.inl rfl | exact Or.inr (Or.inl rfl) | exact Or.inr (Or.inr rfl)) (hd : (x == ("__debug__" : Str)) = false := by decide) (hcd : (x == ("__classdict__" : Str)) = false := by decide)
    (hs : PlainIx b := by exact fun _ _ => rfl) : DE X W bv (.Subscript (.Name x px) b pos) (pkIxA i fb) :=
  pe_imp (pe_ix (ix_seq.or (ix_dict hr)) (pe_var hN hv hd hcd) hb hs) fun σ H Q t => by
    obtain ⟨v, hv, e, F, fp, S, q⟩ := chk_tG t
    refine ⟨v, hv, tG.mono (AtG.bnd' (r := rD X.K) S q) fun y H2 ⟨d2, e2, F2, fp2, s2, S2, r2, q2⟩ => ?_⟩
    obtain ⟨d, hd', q3⟩ : ∃ d, itemA i d2 e2 = some d ∧ AtG X.K W bv (smp (rD X.K)) (ret d) e2 σ F2 H2 fp2 Q := by
      unfold AtG at q2
      dsimp only at q2
      cases hh : itemA i d2 e2 with
      | none => rw [hh] at q2; exact q2.elim
      | some d => rw [hh] at q2; exact ⟨d, rfl, q2⟩
    obtain ⟨v', w, h1, h2, h3⟩ := itemA_at (Q := Q) S2 r2 hd'
    rw [hv] at h1
    cases h1
    exact h3 (AtG.here (r := rD X.K) S2 q3 h2)
end
end FD
/-! FD: enumerate over lists and tuples. -/
namespace FD
variable [TabT]
open PySem L2 PyProof.Rows
theorem enum_newB {v : Value} {o : Obj} {H : Heap → Prop} (B : Begins v o H) :
    Meets (Builtin.«enumerate.__new__» ⟨[.type "enumerate", v], []⟩) (fun _ R s => H s.heap ∧ R (.ok (.ret (.ref (s.heap.push o).objs.size))) { s with heap := (s.heap.push o).push { cls := .type "enumerate", data := .fields #[.none, .bool false, .ref s.heap.objs.size, rawInt 0, .none, .none] } }) :=
  .of_wp fun prog w A R s hh => by
    obtain ⟨hp, g, d, tk, os⟩ := s
    obtain ⟨h1, h⟩ := hh
    have hsub := sub_enumerate
    have step : ∀ {A' : Around} {E : Value → Shared → Prop} {Q : Value → Shared → Prop}, Q (.ref hp.objs.size) ⟨hp.push o, g, d, tk, os⟩ → wpAny (model prog w) A' (pyIter v) Q E ⟨hp, g, d, tk, os⟩ := fun q => B.iter prog w _ _ ⟨hp, g, d, tk, os⟩ _ h1 q
    wp_walk using step
    refine wpAny_stack_any fun st => wpAny_pure ?_
    split
    · rename_i c _ _ _ _ _
      cases (c == Value.type "enumerate") <;> (wp_walk using step; exact ⟨_, rfl, h⟩)
    · wp_walk using step
      exact ⟨_, rfl, h⟩
theorem enum_begin {prog : Program} {w : World} {A : Around} {E : Value → Shared → Prop} {s : Shared} {v : Value} {o : Obj} {H : Heap → Prop} {Q : Value → Shared → Prop} (B : Begins v o H) (h1 : H s.heap)
    (h : ∀ h', IsEnum h' (s.heap.objs.size + 1) s.heap.objs.size 0 .none → h'.get? s.heap.objs.size = some o → (∀ b o, s.heap.get? b = some o → h'.get? b = some o) → Q (.ref (s.heap.objs.size + 1)) { s with heap := h' }) :
    wpAny (model prog w) A (call (.type "enumerate") [v]) Q E s := by
  refine callType_new F.called_enumerate (by decide) (F.typeCall_enumerate_1 _) (F.newCall_enumerate_1 _) (fun obj => F.args_object_init_2 obj _) F.entry_enumerate_new (enum_newB B) ⟨h1, ?_⟩
  have hz : (s.heap.push o).objs.size = s.heap.objs.size + 1 := Heap.size_push ..
  have he := Heap.get?_push_size (s.heap.push o) (o := { cls := .type "enumerate", data := .fields #[.none, .bool false, .ref s.heap.objs.size, rawInt 0, .none, .none] }) rfl
  rw [hz] at he
  show _ ∧ _
  rw [hz]
  exact ⟨⟨_, he, rfl⟩, h _ he (Heap.get?_push_of_some _ (Heap.get?_push_size _ B.free)) fun b o x => Heap.get?_push_of_some _ (Heap.get?_push_of_some _ x)⟩
/-- the tuple at a, each item in a new pair -/
def ItTe (K : PySem.W.Frag) (a : Addr) : It where
  go i H := ∃ (xs : List V) (x : V), SqT K H a xs ∧ xs[i]? = some x
  yld i H v H' := ∃ T x, v = .ref T ∧ H T = none ∧ H' = upd H T (.tup [.int (i : Nat), x]) ∧ ∀ xs, SqT K H a xs → xs[i]? = some x
  stop i H := ∃ xs : List V, SqT K H a xs ∧ i = xs.length
def EnT (a e it : Addr) (i : Nat) (h : Heap) : Prop := (∃ old, IsEnum h e it ((i : Nat) : Int) old) ∧ h.IsTupleIter it a i ∧ e ≠ it ∧ a ≠ it ∧ a ≠ e
theorem turn_enumT {P : Program} {w : World} {K : PySem.W.Frag} {elts : List Expr} {kk : Nat} {tpos : Pos} (a e it : Addr) : Turn P w K (.Tuple elts kk tpos) (ItTe K a) [e, it] e (EnT a e it) where
  mem := List.mem_cons_self
  obj := fun i h st b hb => by
    obtain ⟨⟨old, he⟩, ⟨o, ho, hc, hd⟩, _⟩ := st
    rcases (by simpa using hb : b = e ∨ b = it) with z | z
    · rw [z]; exact ⟨_, he, fun v q => nomatch q⟩
    · rw [z]; exact ⟨o, ho, fun v q => by rw [hd] at q; cases q⟩
  keep := fun i h h' st k => by
    obtain ⟨⟨old, he⟩, hi, hn⟩ := st
    exact ⟨⟨old, k e (by simp) _ he⟩, hi.at fun o q => k it (by simp) o q, hn⟩
  item := by
    intro X hP hw hK hc i pins s σ H E I hf st hg
    subst hP hw hK
    obtain ⟨⟨old, he⟩, hit, hne, hai, hae⟩ := st
    obtain ⟨xs, x, hq, hx⟩ := hg
    obtain ⟨its, rv, ip, hz⟩ := I.tuple hq
    obtain ⟨u, hu, ru⟩ := rv.get hx
    have hel : e < s.heap.objs.size := Heap.lt_size he
    have hil : it < s.heap.objs.size := by obtain ⟨_, q, _⟩ := hit; exact Heap.lt_size q
    have ilt : i < its.toArray.size := by
      have := (List.getElem?_eq_some_iff.mp hu).1
      simpa using this
    have tup : s.heap.IsTuple a its.toArray := ip
    refine wpAny_pyNext_enum_itemC (Draws.tuple (A := X.A.in1) (I.ok.hd hc) it a hai its.toArray) he ⟨hit, tup⟩ ilt hne (by simp [hne, Ne.symm hae]) fun x' h' tk hpx ho st' hT hsz hk => ?_
    have ex : x' = u := by
      have : its.toArray[i]? = some u := by simpa using hu
      rw [this] at hpx
      exact (Option.some.inj hpx).symm
    subst ex
    refine ⟨_, rfl, wpAny_letOwnedTupleGo_enum (s := { s with heap := h', toks := tk + 1 }) ho fun h'' he' sb => ?_⟩
    have hT2 := (sb.2 _ (Nat.ne_of_gt hel)).trans hT
    have new : ObjOk X.prog X.w (upd H s.heap.objs.size (.tup [.int (i : Nat), x])) h'' s.heap.objs.size (.tup [.int (i : Nat), x]) := ⟨by show 2 ≤ sizeLine; decide, [.int i tk, x'], .cons ⟨_, rfl⟩ (.cons ru .nil), ⟨_, hT2, rfl, _, rfl⟩⟩
    have I1 : Inv X pins σ (upd H s.heap.objs.size (.tup [.int (i : Nat), x])) { s with heap := h'', toks := tk + 1 } :=
      I.turnedNew (ch := [e, it]) (fun b ob hb q => (sb.2 b fun z => hb (by simp [z])).trans (hk b ob (fun z => hb (by simp [z])) (fun z => hb (by simp [z])) q)) hf (Nat.le_refl _) new
    refine ⟨.ref s.heap.objs.size, _, I1, rfl, ⟨_, x, rfl, I.hok.fresh (Nat.le_refl _), rfl, fun ys hy => by rw [I.tuple_inj hy hq]; exact hx⟩, ⟨⟨x', ?_⟩, st'.1.at fun o q => (sb.2 it (Ne.symm hne)).trans q, hne, hai, hae⟩, fun b hb => ?_⟩
    · rw [show ((i + 1 : Nat) : Int) = (i : Int) + 1 by omega]
      exact he'
    · have lt : b < s.heap.objs.size := by
        rcases (by simpa using hb : b = e ∨ b = it) with z | z <;> rw [z] <;> assumption
      rw [upd_ne (Nat.ne_of_lt lt)]
      exact (hf b hb).1
  done := by
    intro X hP hw hK hc i pins s σ H E I hf st hg
    subst hP hw hK
    obtain ⟨⟨old, he⟩, hit, hne, hai, hae⟩ := st
    obtain ⟨xs, hq, hx⟩ := hg
    obtain ⟨its, rv, ip, hz⟩ := I.tuple hq
    obtain ⟨f0, f1, f2, f3, f4, f5⟩ := hf it (by simp)
    have hl : i = its.toArray.size := by rw [hx, rv.length]; simp
    rw [hl] at hit
    exact wpAny_pyNext_enum_endD (Draws.tuple (A := X.A.in1) (I.ok.hd hc) it a hai its.toArray) he ⟨hit, ip⟩ fun h' eb => ⟨rfl, I.turned (t' := s.toks) (fun b o hb q => eb b o hb q) f0 f1 f3 f4 f5⟩
  self := fun A i s Q E st h => by
    obtain ⟨⟨_, he⟩, _⟩ := st
    exact wpAny_pyIter_enum he h
/-! ### the walks as data -/
section
variable {X : Cx} {W : WX} {bv : Nat → Option V} {pos p tpos : Pos} {a b : Expr} {fa fb : EM D} {fs : EM (List D)} {elts : List Expr} {kk : Nat}
def iEnT (K : PySem.W.Frag) (ta : TA) : TI := fun σ H R => ta σ H fun vs H1 => ∃ a xs, vs = [.ref a] ∧ SqT K H1 a xs ∧ R (ItTe K a) H1
theorem pi_enT {e : Expr} {ta : TA} (hg : Gl X "enumerate") (hm : X.mg "enumerate" = none) (ha : PA X [e] ta) (hs : starEach [e] X.env = [(false, eval e X.env)] := by rfl) : PI X (.Tuple elts kk tpos) (.Call (.Name "enumerate" p) [e] [] pos) (iEnT X.K ta) := by
  refine ⟨fun pins s σ H R I h => Call_ (ld_blt I hg hm boot_enumerate (PyProof.Rows.callWith_type1 (thn (ha.run pos pins s σ H _ I h) fun us s1 ⟨vs, H1, I1, r1, q1⟩ => ?_) hs rfl))⟩
  obtain ⟨a, xs, ex, hq, q⟩ := q1
  subst ex
  rw [Vals.ref1 r1]
  obtain ⟨its, rv, ip, hz⟩ := I1.tuple hq
  have alt : a < s1.heap.objs.size := ip.lt
  refine enum_begin (begins_tuple a its.toArray) ip fun h' he hit hk => wpAny_pyIter_enum he ?_
  have I2 : Inv X pins σ H1 { s1 with heap := h' } := I1.kept (t' := s1.toks) hk
  refine ⟨s1.heap.objs.size + 1, [s1.heap.objs.size + 1, s1.heap.objs.size], _, _, H1, rfl, I2, turn_enumT a (s1.heap.objs.size + 1) s1.heap.objs.size, ⟨⟨.none, he⟩, ⟨_, hit, rfl, rfl⟩, Nat.succ_ne_self _, Nat.ne_of_lt alt, Nat.ne_of_lt (Nat.lt_succ_of_lt alt)⟩, fun b hb => ?_, q⟩
  have hle : s1.heap.objs.size ≤ b := by
    rcases (by simpa using hb : b = s1.heap.objs.size + 1 ∨ b = s1.heap.objs.size) with z | z
    · rw [z]; exact Nat.le_succ _
    · rw [z]; exact Nat.le_refl _
  exact I1.fpOk hle (I1.hok.fresh hle)
def enumDs (ds : List D) : List D := ds.zipIdx.map fun q => .tuple [.int (q.2 : Nat), q.1]
theorem enum_get {ds : List D} {i : Nat} {d : D} (h : (enumDs ds)[i]? = some d) : ∃ y, ds[i]? = some y ∧ d = .tuple [.int (i : Nat), y] := by
  unfold enumDs at h
  rw [List.getElem?_map] at h
  obtain ⟨q, hq, rfl⟩ := Option.map_eq_some_iff.mp h
  rw [List.getElem?_zipIdx] at hq
  obtain ⟨y, hy, rfl⟩ := Option.map_eq_some_iff.mp hq
  exact ⟨y, hy, by simp⟩
theorem enum_len {ds : List D} : (enumDs ds).length = ds.length := by simp [enumDs]
def enL : List D → Option (List D)
  | [.list ds] => some (enumDs ds)
  | _ => none
def enT : List D → Option (List D)
  | [.tuple ds] => some (enumDs ds)
  | _ => none
def enA : List D → Option (List D)
  | [.list ds] => some (enumDs ds)
  | [.tuple ds] => some (enumDs ds)
  | _ => none
theorem grow_pair {K : PySem.W.Frag} {F F' H : Hp} {T : Addr} {i : Nat} {v : V} {y : D} (s1 : Sub F F') (s2 : Sub F' H) (rv : Rp K F v y) (hT : H T = none) : ∃ F'', Grow F' H F'' (upd H T (.tup [.int (i : Nat), v])) ∧ Rp K F'' (.ref T) (.tuple [.int (i : Nat), y]) :=
  ⟨_, .inr (.inl ⟨T, _, hT, rfl, rfl⟩), .tup upd_same (.cons (.int _) (.cons ((rv.mono s1).mono (Sub.new (s2.non hT))) .nil))⟩
theorem di_enL (hm : X.mg "enumerate" = none) (ha : DA X W bv [a] fs) (hg : Gl X "enumerate" := by rfl) (hs : starEach [a] X.env = [(false, eval a X.env)] := by rfl) : DI X W bv (.Tuple elts kk tpos) (.Call (.Name "enumerate" p) [a] [] pos) (itA enL fs) :=
  pi_imp (pi_enum hg hm ha hs) fun σ H R t => tG.mono (tI_bndA t) fun x H1 ⟨d, e1, F1, fp1, ds, S1, r1, hk, q⟩ => by
    unfold enL at hk
    split at hk
    · rename_i ds0
      cases hk
      cases r1 with
      | cons r1 r =>
        cases r
        cases r1 with
        | lst hl rl =>
          refine ⟨_, _, rfl, S1.sub.l hl, q _ F1 H1 fp1 (Stp.refl _ _ _) S1 fun F' H' i s1 s2 => ⟨fun d hd => ?_, fun h1 h2 => ⟨_, s2.l (s1.l hl), by rw [rl.length]; rw [enum_len] at h1; exact h1⟩⟩⟩
          obtain ⟨y, hy, rfl⟩ := enum_get hd
          obtain ⟨v, hv, rv⟩ := rl.get hy
          refine ⟨⟨_, v, s2.l (s1.l hl), hv⟩, fun x H'' ⟨T, x', e1, e2, e3, e4⟩ => ?_⟩
          have := e4 _ (s2.l (s1.l hl))
          rw [hv] at this
          cases this
          subst e1 e3
          exact grow_pair s1 s2 rv e2
    · cases hk
theorem di_enT (hm : X.mg "enumerate" = none) (ha : DA X W bv [a] fs) (hg : Gl X "enumerate" := by rfl) (hs : starEach [a] X.env = [(false, eval a X.env)] := by rfl) : DI X W bv (.Tuple elts kk tpos) (.Call (.Name "enumerate" p) [a] [] pos) (itA enT fs) :=
  pi_imp (pi_enT hg hm ha hs) fun σ H R t => tG.mono (tI_bndA t) fun x H1 ⟨d, e1, F1, fp1, ds, S1, r1, hk, q⟩ => by
    unfold enT at hk
    split at hk
    · rename_i ds0
      cases hk
      cases r1 with
      | cons r1 r =>
        cases r
        cases r1 with
        | tup hl rl =>
          refine ⟨_, _, rfl, S1.sub.t hl, q _ F1 H1 fp1 (Stp.refl _ _ _) S1 fun F' H' i s1 s2 => ⟨fun d hd => ?_, fun h1 h2 => ⟨_, (s1.trans s2).t hl, by rw [rl.length]; rw [enum_len] at h1 h2; omega⟩⟩⟩
          obtain ⟨y, hy, rfl⟩ := enum_get hd
          obtain ⟨v, hv, rv⟩ := rl.get hy
          refine ⟨⟨_, v, (s1.trans s2).t hl, hv⟩, fun x H'' ⟨T, x', e1, e2, e3, e4⟩ => ?_⟩
          have := e4 _ ((s1.trans s2).t hl)
          rw [hv] at this
          cases this
          subst e1 e3
          exact grow_pair s1 s2 rv e2
    · cases hk
/-- by what the denotation says, one rule or another -/
theorem pi_case {tg iter : Expr} {f : EM (List D)} (h : ∀ e : Env, ∃ g : EM (List D), g e = f e ∧ DI X W bv tg iter g) : DI X W bv tg iter f :=
  ⟨fun pins s σ H R I ⟨e, F, fp, S, q⟩ => by
    obtain ⟨g, hg, hd⟩ := h e
    refine hd.run pins s σ H R I ⟨e, F, fp, S, ?_⟩
    rw [hg]
    exact q⟩
theorem di_enum (hm : X.mg "enumerate" = none) (ha : DA X W bv [a] fs) (hg : Gl X "enumerate" := by rfl) (hs : starEach [a] X.env = [(false, eval a X.env)] := by rfl) : DI X W bv (.Tuple elts kk tpos) (.Call (.Name "enumerate" p) [a] [] pos) (itA enA fs) :=
  pi_case fun e => by
    unfold itA bnd
    cases z : fs e with
    | no => exact ⟨itA enL fs, by unfold itA bnd; rw [z], di_enL hm ha hg hs⟩
    | ex C fs' e' => exact ⟨itA enL fs, by unfold itA bnd; rw [z], di_enL hm ha hg hs⟩
    | ok ds e1 =>
      by_cases hz : enA ds = enL ds
      · exact ⟨itA enL fs, by unfold itA bnd; rw [z]; dsimp only; rw [hz], di_enL hm ha hg hs⟩
      · refine ⟨itA enT fs, ?_, di_enT hm ha hg hs⟩
        unfold itA bnd
        rw [z]
        dsimp only
        have : enT ds = enA ds := by
          unfold enA at hz ⊢
          split at hz
          · exact absurd rfl hz
          · rfl
          · exact absurd (by unfold enL; split <;> simp_all) hz
        rw [this]
end
end FD
/-! FD: calls with keywords. -/
namespace FD
variable [TabT]
open PySem L2
def pick {α : Type} (l ds : List α) (ix : List (Nat ⊕ Nat)) : List α := ix.filterMap fun j => match j with
  | .inl j => l[j]?
  | .inr j => ds[j]?
def okIx (n m : Nat) (ix : List (Nat ⊕ Nat)) : Bool := ix.all fun j => match j with
  | .inl j => decide (j < n)
  | .inr j => decide (j < m)
/-- what holds of one and one, of lists -/
inductive Two {α β : Type} (R : α → β → Prop) : List α → List β → Prop
  | nil : Two R [] []
  | cons {a : α} {b : β} {as : List α} {bs : List β} : R a b → Two R as bs → Two R (a :: as) (b :: bs)
theorem Two.length {α β : Type} {R : α → β → Prop} : ∀ {as : List α} {bs : List β}, Two R as bs → as.length = bs.length
  | _, _, .nil => rfl
  | _, _, .cons _ t => by rw [List.length_cons, List.length_cons, t.length]
theorem Two.get {α β : Type} {R : α → β → Prop} : ∀ {as : List α} {bs : List β} {j : Nat} {a : α} {b : β}, Two R as bs → as[j]? = some a → bs[j]? = some b → R a b
  | _, _, _, _, _, .nil, h, _ => by simp at h
  | _, _, 0, _, _, .cons r _, h1, h2 => by simp at h1 h2; subst h1 h2; exact r
  | _, _, j + 1, _, _, .cons _ t, h1, h2 => t.get (j := j) (by simpa using h1) (by simpa using h2)
theorem Two.append {α β : Type} {R : α → β → Prop} : ∀ {as as' : List α} {bs bs' : List β}, Two R as bs → Two R as' bs' → Two R (as ++ as') (bs ++ bs')
  | _, _, _, _, .nil, t => t
  | _, _, _, _, .cons r s, t => .cons r (s.append t)
theorem Two.pick {α β : Type} {R : α → β → Prop} {as da : List α} {bs db : List β} (h : Two R as bs) (hd : Two R da db) : ∀ {ix : List (Nat ⊕ Nat)}, okIx as.length da.length ix = true → Two R (FD.pick as da ix) (FD.pick bs db ix)
  | [], _ => .nil
  | .inl j :: ix, ok => by
    simp only [okIx, List.all_cons, Bool.and_eq_true, decide_eq_true_eq] at ok
    have l2 : j < bs.length := by rw [← h.length]; exact ok.1
    show Two R (List.filterMap _ _) (List.filterMap _ _)
    rw [List.filterMap_cons, List.filterMap_cons]
    simp only [List.getElem?_eq_getElem ok.1, List.getElem?_eq_getElem l2]
    exact .cons (h.get (List.getElem?_eq_getElem ok.1) (List.getElem?_eq_getElem l2)) (Two.pick h hd ok.2)
  | .inr j :: ix, ok => by
    simp only [okIx, List.all_cons, Bool.and_eq_true, decide_eq_true_eq] at ok
    have l2 : j < db.length := by rw [← hd.length]; exact ok.1
    show Two R (List.filterMap _ _) (List.filterMap _ _)
    rw [List.filterMap_cons, List.filterMap_cons]
    simp only [List.getElem?_eq_getElem ok.1, List.getElem?_eq_getElem l2]
    exact .cons (hd.get (List.getElem?_eq_getElem ok.1) (List.getElem?_eq_getElem l2)) (Two.pick h hd ok.2)
theorem two_vals : ∀ {vs : List V} {us : List Value}, Vals vs us → Two RelV vs us
  | _, _, .nil => .nil
  | _, _, .cons r t => .cons r (two_vals t)
theorem vals_two : ∀ {vs : List V} {us : List Value}, Two RelV vs us → Vals vs us
  | _, _, .nil => .nil
  | _, _, .cons r t => .cons r (vals_two t)
/-- one argument -/
def rA1 (K : PySem.W.Frag) (σ : L2.St) (F : Hp) (x : V) : AR → Prop
  | .d d => Rp K F x d
  | .b s => σ[s]? = some (some x)
theorem two_ar {K : PySem.W.Frag} {σ : L2.St} {F : Hp} : ∀ {vs : List V} {as : List AR}, rAR K σ F vs as → Two (rA1 K σ F) vs as
  | [], [], _ => .nil
  | [], .d _ :: _, h => h.elim
  | [], .b _ :: _, h => h.elim
  | _ :: _, [], h => h.elim
  | _ :: _, .d _ :: _, h => .cons h.1 (two_ar h.2)
  | _ :: _, .b _ :: _, h => .cons h.1 (two_ar h.2)
theorem ar_two {K : PySem.W.Frag} {σ : L2.St} {F : Hp} : ∀ {vs : List V} {as : List AR}, Two (rA1 K σ F) vs as → rAR K σ F vs as
  | _, _, .nil => trivial
  | _, .d _ :: _, .cons r t => ⟨r, ar_two t⟩
  | _, .b _ :: _, .cons r t => ⟨r, ar_two t⟩
theorem rAR_mono {K : PySem.W.Frag} {σ : L2.St} {F G : Hp} (s : Sub F G) : ∀ {vs : List V} {as : List AR}, rAR K σ F vs as → rAR K σ G vs as
  | [], [], _ => trivial
  | [], .d _ :: _, h => h.elim
  | [], .b _ :: _, h => h.elim
  | _ :: _, [], h => h.elim
  | _ :: _, .d _ :: _, h => ⟨Rp.mono s h.1, rAR_mono s h.2⟩
  | _ :: _, .b _ :: _, h => ⟨h.1, rAR_mono s h.2⟩
theorem two_flat {K : PySem.W.Frag} {σ : L2.St} {F : Hp} : ∀ {ds : List D}, flatAll ds = true → Two (rA1 K σ F) (ds.map flatOf) (ds.map AR.d)
  | [], _ => .nil
  | d :: ds, h => by
    simp only [flatAll, List.all_cons, Bool.and_eq_true] at h
    exact .cons (Rp.flat h.1) (two_flat h.2)
/-- what a call with n positional values and the keywords ks binds: ix tells for each parameter where its value comes from, ds the defaults that are used -/
structure KBG (K : PySem.W.Frag) (fd : FuncData) (ps : List Str) (n : Nat) (ks : List Str) (ix : List (Nat ⊕ Nat)) (ds : List D) : Prop where
  ok : okIx (n + ks.length) ds.length ix = true
  fl : flatAll ds = true
  to : ∀ (s : Shared) (us ws : List Value), K.In s.heap → us.length = n → ws.length = ks.length → ∃ dus, Vals (ds.map flatOf) dus ∧ BindsTo s fd ⟨us, ks.zip ws⟩ (ps.zip (pick (us ++ ws) dus ix))
theorem Fun.of_D {K : PySem.W.Frag} {x qual : Str} {st : Stmt} {f : Addr} {fd : FuncData} {kws : List (Str × V)} (Fn : FunD K x qual (defArgs st) (defBody st) (defScope st) [] kws f fd) : Fun K x qual st f fd := by
  obtain ⟨oc, od, dV, kV, doc, pm, an, cdv, ct, osl, e, lk, hcd, hD, hK⟩ := Fn.ex
  rcases hD with ⟨_, rfl⟩ | ⟨z, _⟩
  · exact ⟨⟨oc, od, kV, doc, pm, an, cdv, ct, osl, e, lk, hcd⟩, Fn.kp⟩
  · exact absurd rfl z
theorem kb_kw {K : PySem.W.Frag} {x qual : Str} {st : Stmt} {f : Addr} {fd : FuncData} {ps : List Str} {kws : List (Str × V)} (Fn : FunD K x qual (defArgs st) (defBody st) (defScope st) [] kws f fd) (n : Nat) (ks : List Str) (ix : List (Nat ⊕ Nat)) (ms : List (Str × D)) (hk : kws ≠ [])
    (hms : ∀ q ∈ ms, (q.1, flatOf q.2) ∈ kws) (fl : flatAll (ms.map (·.2)) = true) (ok : okIx (n + ks.length) ms.length ix = true)
    (h : ∀ (D : Addr) (doc pm : Value) (an : Option Addr) (cdv ct : Value) (us ws mv : List Value), us.length = n → ws.length = ks.length → mv.length = ms.length →
      KwChain D ((ms.map (·.1)).zip mv) (bindArgs (PySem.W.fnOf x qual (defArgs st) (defBody st) (defScope st) .none (.ref D) doc pm an cdv ct) ⟨us, ks.zip ws⟩) (ps.zip (pick (us ++ ws) mv ix))) : KBG K fd ps n ks ix (ms.map (·.2)) where
  ok := by rw [List.length_map]; exact ok
  fl := fl
  to := fun s us ws X l1 l2 => by
    obtain ⟨oc, od, dV, kV, doc, pm, an, cdv, ct, osl, rfl, lk, hcd, hD, hK⟩ := Fn.ex
    rcases hD with ⟨_, rfl⟩ | ⟨z, _⟩
    · rcases hK with e | ⟨D, rfl, hq⟩
      · exact absurd e hk
      · obtain ⟨mv, hl, rk, hks⟩ := kwd_vals (ms := ms.map fun q => (q.1, flatOf q.2)) fun q hm => by
          obtain ⟨q', h1, rfl⟩ := List.mem_map.mp hm
          exact hq _ (hms q' h1)
        rw [List.map_map] at rk hks
        rw [List.length_map] at hl
        refine ⟨mv, by rw [List.map_map]; exact rk, BindsTo.of_looks fun M => KwChain.looks X hks (h D doc pm an cdv ct us ws mv l1 l2 hl)⟩
    · exact absurd rfl z
section
variable {X : Cx} {W : WX} {bv : Nat → Option V} {pos p : Pos} {a : Expr} {es : List Expr} {fa : EM D} {fr frk : EM (List AR)} {kws : List Keyword} {nm : Option Str} {kpos : Pos} {x : Str} {k n : Nat} {f : Addr} {fd : FuncData} {ps ks : List Str} {sp : Sp} {E : L2.St → XK} {ix : List (Nat ⊕ Nat)} {ds : List D} {t tk : TA}
abbrev DK (X : Cx) (W : WX) (bv : Nat → Option V) (kws : List Keyword) (f : EM (List AR)) : Prop := PK X kws (tR X.K W bv f)
theorem pk_imp {kws : List Keyword} {t t' : TA} (h : PK X kws t) (w : ∀ σ H Q, t' σ H Q → t σ H Q) : PK X kws t' := ⟨fun pos pins s σ H Q I q => h.run pos pins s σ H Q I (w σ H Q q)⟩
theorem dk_nil : DK X W bv [] arN := pk_imp pk_nil fun σ H Q ⟨e, F, fp, S, q⟩ => AtG.here (r := rAR X.K σ) S q trivial
theorem dk_cons (h : DE X W bv a fa) (hr : DK X W bv kws fr) : DK X W bv (⟨nm, a, kpos⟩ :: kws) (arD fa fr) :=
  pk_imp (pk_cons h hr) fun σ H Q t => by
    refine tG.mono (tG.bnd (r := rD X.K) t) fun x H1 ⟨d, e1, F1, fp1, S1, r1, q1⟩ => ?_
    refine tG.mono (AtG.bnd' (r := rAR X.K σ) S1 q1) fun xs H2 ⟨as, e2, F2, fp2, s2, S2, r2, q2⟩ => ?_
    exact AtG.here (r := rAR X.K σ) S2 q2 ⟨Rp.mono s2 r1, r2⟩
/-- positional and keyword arguments in the parameters' order -/
def kwA (n m : Nat) (ix : List (Nat ⊕ Nat)) (ds : List D) (fr frk : EM (List AR)) : EM (List AR) := bnd fr fun as => bnd frk fun bs => lif (if as.length = n ∧ bs.length = m then some (pick (as ++ bs) (ds.map .d) ix) else none)
theorem bnd_assoc {α β γ : Type} {f : EM α} {g : α → EM β} {h : β → EM γ} : bnd (bnd f g) h = bnd f fun a => bnd (g a) h := by
  funext e
  unfold bnd
  cases f e <;> rfl
theorem run_G {E : XK} {pins : List (Addr × Obj)} {σ : L2.St} {H : Hp} {s : Shared} {Q : VK} {us ws : List Value} {vs zs : List V} (G : FnG X.prog X.w X.K X.mg X.base k f fd ps sp) (hg : X.A.guards = some []) (hr : Room k X.A) (hb : KBG X.K fd ps n ks ix ds) (I : Inv X pins σ H s) (r : Vals vs us) (rz : Vals zs ws) (l1 : vs.length = n) (l2 : zs.length = ks.length)
    (hx : PassesAt (L2.CX X.prog X.w) X σ E) (h : sp (pick (vs ++ zs) (ds.map flatOf) ix) H Q E) : wpAny (model X.prog X.w) X.A (call (.ref f) us (ks.zip ws)) (EP X pins σ Q) X.xe s := by
  obtain ⟨dus, rd, bi⟩ := hb.to s us ws I.kIn (r.length.symm.trans l1) (rz.length.symm.trans l2)
  refine wpAny_call (goG G hg hr hx I bi (vals_two (((two_vals r).append (two_vals rz)).pick (two_vals rd) ?_)) h)
  rw [List.length_append, l1, l2, List.length_map]
  exact hb.ok
theorem pe_callKG (hx : ∀ σ, PassesAt (L2.CX X.prog X.w) X σ (E σ)) (G : FnG X.prog X.w X.K X.mg X.base k f fd ps sp) (hgd : X.A.guards = some []) (hr : Room k X.A) (hm : X.mg x = some (.ref f)) (hk : PySem.W.keepIn X.K (.ref f) = true) (hb : KBG X.K fd ps n ks ix ds)
    (ha : PA X (a :: es) t) (hkw : PK X kws tk) (hg : Gl X x) (hdb : (x == ("__debug__" : Str)) = false) (hall : (backToKw pos (keywordEach kws X.env)).all (·.1.isSome) = true) (hks : (backToKw pos (keywordEach kws X.env)).filterMap (·.1) = ks)
    (he : starEach (a :: es) X.env = (false, eval a X.env) :: starEach es X.env) (hpl : ((backTo pos (starEach (a :: es) X.env)).any (·.1) || (backToKw pos (keywordEach kws X.env)).any (·.1.isNone)) = false) :
    PE X (.Call (.Name x p) (a :: es) kws pos) (fun σ H Q => t σ H fun vs H1 => tk σ H1 fun zs H2 => vs.length = n ∧ zs.length = ks.length ∧ sp (pick (vs ++ zs) (ds.map flatOf) ix) H2 Q (E σ)) := by
  refine ⟨fun pins s σ H Q I h => wpAny_Call_Name_kw (ld_glob I hg hm ?_ hdb)⟩
  refine PySem.W.callWith_KW (h₀ := X.base) I.ok.mod.kin hk hall (thn (ha.run pos pins s σ H _ I h) fun us s1 ⟨vs, H1, I1, r, q⟩ => ?_) hpl he
  refine thn (hkw.run pos pins s1 σ H1 _ I1 q) fun ws s2 ⟨zs, H2, I2, rz, l1, l2, q2⟩ => ⟨I2.kIn, ?_⟩
  rw [hks]
  exact run_G G hgd hr hb I2 r rz l1 l2 (hx σ) q2
theorem callK_of {K : PySem.W.Frag} {Fs : List M → FOut} {σ : L2.St} {H : Hp} {Q : VK} {m : Nat} (fl : flatAll ds = true) (ok : okIx (n + m) ds.length ix = true) (t : tM K W bv (callM Fs (kwA n m ix ds fr frk)) σ H Q) :
    tR K W bv fr σ H fun vs H1 => tR K W bv frk σ H1 fun zs H2 => vs.length = n ∧ zs.length = m ∧ spF K Fs (pick (vs ++ zs) (ds.map flatOf) ix) H2 Q E0 := by
  unfold callM kwA at t
  rw [bnd_assoc] at t
  refine tG.mono (tG.bnd (r := rAR K σ) t) fun vs H1 ⟨as, e1, F1, fp1, S1, r1, q1⟩ => ?_
  rw [bnd_assoc] at q1
  refine tG.mono (AtG.bnd' (r := rAR K σ) S1 q1) fun zs H2 ⟨bs, e2, F2, fp2, s2, S2, r2, q2⟩ => ?_
  have t1 := two_ar (rAR_mono s2 r1)
  have t2 := two_ar r2
  by_cases hz : as.length = n ∧ bs.length = m
  · rw [if_pos hz] at q2
    refine ⟨t1.length.trans hz.1, t2.length.trans hz.2, ?_⟩
    have r3 : rAR K σ F2 (pick (vs ++ zs) (ds.map flatOf) ix) (pick (as ++ bs) (ds.map .d) ix) := ar_two ((t1.append t2).pick (two_flat fl) (by rw [List.length_append, t1.length, t2.length, hz.1, hz.2, List.length_map]; exact ok))
    exact call_at S2 r3 q2
  · rw [if_neg hz] at q2
    exact q2.elim
theorem dm_callK {Fs : List M → FOut} (G : FnG X.prog X.w X.K X.mg X.base k f fd ps (spF X.K Fs)) (hgd : X.A.guards = some []) (hr : Room k X.A) (hm : X.mg x = some (.ref f)) (hk : PySem.W.keepIn X.K (.ref f) = true) (hb : KBG X.K fd ps n ks ix ds)
    (ha : DR X W bv (a :: es) fr) (hkw : DK X W bv kws frk) (hg : Gl X x := by rfl) (hdb : (x == ("__debug__" : Str)) = false := by decide) (hall : (backToKw pos (keywordEach kws X.env)).all (·.1.isSome) = true := by rfl) (hks : (backToKw pos (keywordEach kws X.env)).filterMap (·.1) = ks := by rfl)
    (he : starEach (a :: es) X.env = (false, eval a X.env) :: starEach es X.env := by rfl) (hpl : ((backTo pos (starEach (a :: es) X.env)).any (·.1) || (backToKw pos (keywordEach kws X.env)).any (·.1.isNone)) = false := by rfl) :
    DM X W bv (.Call (.Name x p) (a :: es) kws pos) (callM Fs (kwA n ks.length ix ds fr frk)) :=
  pe_imp (pe_callKG (E := fun _ => E0) (fun _ => pass0X) G hgd hr hm hk hb ha hkw hg hdb hall hks he hpl) fun σ H Q t => callK_of hb.fl hb.ok t
theorem de_callK {Fs : List M → FOut} (G : FnG X.prog X.w X.K X.mg X.base k f fd ps (spF X.K Fs)) (hgd : X.A.guards = some []) (hr : Room k X.A) (hm : X.mg x = some (.ref f)) (hk : PySem.W.keepIn X.K (.ref f) = true) (hb : KBG X.K fd ps n ks ix ds)
    (ha : DR X W bv (a :: es) fr) (hkw : DK X W bv kws frk) (hg : Gl X x := by rfl) (hdb : (x == ("__debug__" : Str)) = false := by decide) (hall : (backToKw pos (keywordEach kws X.env)).all (·.1.isSome) = true := by rfl) (hks : (backToKw pos (keywordEach kws X.env)).filterMap (·.1) = ks := by rfl)
    (he : starEach (a :: es) X.env = (false, eval a X.env) :: starEach es X.env := by rfl) (hpl : ((backTo pos (starEach (a :: es) X.env)).any (·.1) || (backToKw pos (keywordEach kws X.env)).any (·.1.isNone)) = false := by rfl) :
    DE X W bv (.Call (.Name x p) (a :: es) kws pos) (callD Fs (kwA n ks.length ix ds fr frk)) := de_ofM (dm_callK G hgd hr hm hk hb ha hkw hg hdb hall hks he hpl)
end
end FD
/-! FD: d.get(k, x), o[k] = v, in, of what is owned or data. -/
namespace FD
variable [TabT]
open PySem L2
section
variable {X : Cx} {W : WX} {bv : Nat → Option V} {pos p px apos cpos : Pos} {a b c : Expr} {es : List Expr} {fa fb fc : EM D} {fs : EM (List D)} {x : Str}
/-! ### d.get(k, x) -/
theorem dx_get2 {pins : List (Addr × Obj)} {σ : L2.St} {H : Hp} {s : Shared} {a : Addr} {y d : V} {u r : Value} {o : Option V} {A : Around} {E : Value → Shared → Prop} {Q : Value → Shared → Prop} (hu : A.units + 1 < cLine) (I : Inv X pins σ H s) (g : DGetX H a y o) (ry : RelV y u) (rd : RelV d r)
    (h : ∀ w' s', Inv X pins σ H s' → RelV (o.getD d) w' → Q w' s') : wpAny (model X.prog X.w) A (call (.builtin "dict.get") [.ref a, u, r]) Q E s := by
  rcases g with g | ⟨rfl, e, b, k, rfl, eb⟩ | ⟨rfl, e, k, rfl⟩
  · exact d_get2 hu I g ry rd h
  · cases (show u = Value.ref b from ry)
    obtain ⟨hd, dd⟩ := emptyH I e
    exact call_meetsIn PySem.F.slot_dict_get dd.typeIs PySem.F.entry_dict_get (PySem.F.args_dict_get_3 _ _ _) (meetsH_dict_get_default (tupleKind (mixKind X.prog X.w)) a b hd r) ⟨tupleKind_room_in1 hu, k, [], key_of I.hok eb, dd, h _ _ (I.tok _) rd⟩
  · obtain ⟨hd, dd⟩ := emptyK I e
    exact call_meetsIn PySem.F.slot_dict_get dd.typeIs PySem.F.entry_dict_get (PySem.F.args_dict_get_3 _ _ _) (meets_dict_get_default (mixKind X.prog X.w) a (kV_is ry) hd r) ⟨_, dd.mapOf, h _ _ (I.tok _) rd⟩
def rGet2 : V → List V → Hp → VK → Prop := fun x xs H Q => ∃ a y z o, x = .ref a ∧ xs = [y, z] ∧ DGetX H a y o ∧ Q (o.getD z) H
/-- o.get(e, f) of what is a dict -/
theorem pe_get2 {td : TE} {ta : TA} {k : Nat} (hr : Room k X.A) (ho : PE X a td) (ha : PA X [b, c] ta) (m : M2 X a "get" apos b c cpos) (hs : starEach [b, c] X.env = (false, eval b X.env) :: starEach [c] X.env := by rfl) :
    PE X (.Call (.Attribute a "get" apos) [b, c] [] cpos) (fun σ H Q => td σ H fun x H1 => ∃ d, x = .ref d ∧ IsD H1 d ∧ ta σ H1 fun xs H2 => rGet2 x xs H2 Q) := by
  have hu : X.A.units + 1 < cLine := by have := hr.un; omega
  refine ⟨fun pins s σ H Q I h => ?_⟩
  refine wpAny_Call_method m.base m.few m.line PySem.F.plainAttrs_dict PySem.F.slot_dict_get PySem.F.type_dict_get (thn (ho.run pins s σ H _ I h) fun u s1 ⟨x, H1, I1, rx, d, ex, hd, q1⟩ => ?_)
  subst ex
  cases (show u = Value.ref d from rx)
  obtain ⟨t1, t2, _⟩ := isD_at I1 hd
  refine ⟨t1, t2, ?_⟩
  have hA := ha.run cpos pins s1 σ H1 _ I1 q1
  rw [m.trees] at hA ⊢
  refine Calls.callWith_builtin rfl (Calls.evalArgs_plain (thn hA fun us s2 hq => ?_))
  obtain ⟨xs, H2, I2, rs, a', y, z, o, e1, e2, g, q2⟩ := hq
  cases e1
  subst e2
  cases rs with
  | cons r1 rs =>
    cases rs with
    | cons r2 rs =>
      cases rs
      exact dx_get2 hu I2 g r1 r2 fun w' s3 I3 rw' => ⟨_, H2, I3, rw', q2⟩
def dcB (kvs : List (D × D)) : Bool := (dictK kvs).isSome || (dictT kvs).isSome
def get2E (fa : EM D) (fs : EM (List D)) : EM D := bnd fa fun d => match d with
  | .dict kvs => fun e => if dcB kvs = true then bnd fs (fun ys => lif (match ys with
    | [y, z] => (getDD kvs y).map fun o => o.getD z
    | _ => none)) e else .no
  | _ => fun _ => .no
theorem m2_of (base : attributeBase a "get" X.env (eval a X.env) = eval a X.env) (few : ((backTo cpos (starEach [b, c] X.env)).all (fun x => !x.1) && (backToKw cpos (keywordEach [] X.env)).all (fun x => x.1.isSome) && decide (([b, c] : List Expr).length + ([] : List Keyword).length + (if ([] : List Keyword).isEmpty then 0 else 1) < 30)) = true)
    (line : (apos.endLine == cpos.line) = true) (trees : backTo cpos (starEach [b, c] X.env) = [(false, eval b X.env), (false, eval c X.env)]) : M2 X a "get" apos b c cpos := ⟨base, few, line, trees⟩
/-- the same of an owned dict -/
def isDkt (i : Nat) (e : Env) : Bool := match e[i]? with
  | some (some (.dk _)) => true
  | some (some (.dt _)) => true
  | _ => false
def getM (i : Nat) (y z : D) (e : Env) : Option D := match e[i]? with
  | some (some (.dk kms)) => match kOf y with
    | some k => match lookK kms k with
      | some (.im d) => some d
      | none => some z
      | _ => none
    | none => none
  | some (some (.dt kms)) => match ksOf y with
    | some k => match lookK kms k with
      | some (.im d) => some d
      | none => some z
      | _ => none
    | none => none
  | _ => none
def pkGet (i : Nat) (fs : EM (List D)) : EM D := fun e => if isDkt i e then bnd fs (fun ys e => lif (match ys with
    | [y, z] => getM i y z e
    | _ => none) e) e else .no
theorem isDkt_at {K : PySem.W.Frag} {e : Env} {σ : L2.St} {F H : Hp} {fp : Nat → List Addr} {i : Nat} (S : SS K bv e σ F H fp) (h : isDkt i e = true) : ∃ a, σ[i]? = some (some (.ref a)) ∧ IsD H a := by
  unfold isDkt at h
  split at h
  · rename_i kms he
    obtain ⟨a, kvs, _, h1, h2, _⟩ := S.dkAt he
    exact ⟨a, h1, .inl ⟨kvs, .inl h2⟩⟩
  · rename_i kms he
    obtain ⟨a, kvs, _, h1, h2, _⟩ := S.dtAt he
    exact ⟨a, h1, .inr ⟨kvs, .inl h2⟩⟩
  · cases h
theorem getM_at {K : PySem.W.Frag} {e : Env} {σ : L2.St} {F H : Hp} {fp : Nat → List Addr} {i : Nat} {y z : V} {yd zd d : D} (S : SS K bv e σ F H fp) (ry : Rp K F y yd) (rz : Rp K F z zd) (h : getM i yd zd e = some d) :
    ∃ a o, σ[i]? = some (some (.ref a)) ∧ DGetX H a y o ∧ Rp K F (o.getD z) d := by
  unfold getM at h
  split at h
  · rename_i kms he
    obtain ⟨a, kvs, fpl, h1, h2, h3, h4, h5, h6⟩ := S.dkAt he
    split at h
    · rename_i k hk
      have ey := ry.key hk
      subst ey
      refine ⟨a, _, h1, .inl (DGet.k h2), ?_⟩
      rcases look_own (k := k) h4 h5 with ⟨e1, e2⟩ | ⟨v, m, l, e1, e2, o, _⟩
      · rw [e1] at h
        cases h
        rw [e2]
        exact rz
      · rw [e2] at h
        cases m with
        | im d' =>
          cases h
          cases o
          rw [e1]
          assumption
        | _ => cases h
    · cases h
  · rename_i kms he
    obtain ⟨a, kvs, fpl, h1, h2, h3, h4, h5, h6⟩ := S.dtAt he
    split at h
    · rename_i k hk
      obtain ⟨b, rfl, hb⟩ := ry.keyT hk
      refine ⟨a, _, h1, .inl (DGet.t h2 (S.sub.tp _ _ hb)), ?_⟩
      rcases look_own (k := k) h4 h5 with ⟨e1, e2⟩ | ⟨v, m, l, e1, e2, o, _⟩
      · rw [e1] at h
        cases h
        rw [e2]
        exact rz
      · rw [e2] at h
        cases m with
        | im d' =>
          cases h
          cases o
          rw [e1]
          assumption
        | _ => cases h
    · cases h
  · cases h
theorem de_getP (i : Nat) {k : Nat} (hr : Room k X.A) (ha : DA X W bv [b, c] fs) (m : M2 X (.Name x px) "get" apos b c cpos) (hN : X.N[i]? = some x := by rfl) (hv : Vis X.env.scope x := by first | exact Or.inl rfl | exact Or.inr (Or.inl rfl) | exact Or.inr (Or.inr rfl)) (hd : (x == ("__debug__" : Str)) = false := by decide) (hcd : (x == ("__classdict__" : Str)) = false := by decide)
    (hs : starEach [b, c] X.env = (false, eval b X.env) :: starEach [c] X.env := by rfl) : DE X W bv (.Call (.Attribute (.Name x px) "get" apos) [b, c] [] cpos) (pkGet i fs) :=
  pe_imp (pe_get2 hr (pe_var hN hv hd hcd) ha m hs) fun σ H Q ⟨e, F, fp, S, q⟩ => by
    unfold AtG pkGet at q
    by_cases hz : isDkt i e = true
    · rw [if_pos hz] at q
      obtain ⟨p, hp, hd'⟩ := isDkt_at S hz
      refine ⟨_, hp, p, rfl, hd', tG.mono (AtG.bnd' (r := rL X.K) S q) fun xs H2 ⟨ys, e2, F2, fp2, s2, S2, r2, q2⟩ => ?_⟩
      obtain ⟨z, hz, q3⟩ : ∃ d, (match ys with | [y, z] => getM i y z e2 | _ => none) = some d ∧ AtG X.K W bv (smp (rD X.K)) (ret d) e2 σ F2 H2 fp2 Q := by
        unfold AtG at q2
        dsimp only at q2
        generalize (match ys with | [y, z] => getM i y z e2 | _ => none) = oo at q2
        cases oo with
        | none => exact q2.elim
        | some d => exact ⟨d, rfl, q2⟩
      split at hz
      · rename_i y zd
        cases r2 with
        | cons ry r2 =>
          cases r2 with
          | cons rz r2 =>
            cases r2
            obtain ⟨p', o, g1, g2, g3⟩ := getM_at S2 ry rz hz
            rw [hp] at g1
            cases g1
            exact ⟨p, _, _, o, rfl, rfl, g2, AtG.here (r := rD X.K) S2 q3 g3⟩
      · cases hz
    · rw [if_neg hz] at q
      exact q.elim
/-! ### o[k] = v -/
def storeM (i : Nat) (k : D) (d : D) : EM Flow := fun e => match e[i]? with
  | some (some (.ls ms)) => match k with
    | .int k => match ixN ms.length k with
      | some j => match ms[j]? with
        | some (.im _) => .ok .nxt (e.set i (some (.ls (ms.set j (.im d)))))
        | _ => .no
      | none => .no
    | _ => .no
  | some (some (.dk kms)) => match kOf k with
    | some k => if few (kms.length + 1) && imK kms k then .ok .nxt (e.set i (some (.dk (putKK kms k (.im d))))) else .no
    | none => .no
  | some (some (.dt kms)) => match ksOf k with
    | some k => if few (kms.length + 1) && imK kms k then .ok .nxt (e.set i (some (.dt (putKK kms k (.im d))))) else .no
    | none => .no
  | _ => .no
def storeS (i : Nat) (fk fv : EM D) : EM Flow := bnd fv fun d => chk i (bnd fk fun k => storeM i k d)
def rSetA : TSet := fun o i v H Q => rSetL o i v H Q ∨ rSetD o i v H Q
theorem set_any {k : Nat} (hr : Room k X.A) : PSet X rSetA := by
  have hu : X.A.units + 1 < cLine := by have := hr.un; omega
  intro pins s σ H o i v ov iv u Q I ro ri rv h
  rcases h with h | h
  · exact set_list pins s σ H o i v ov iv u Q I ro ri rv h
  · exact set_dict hu pins s σ H o i v ov iv u Q I ro ri rv h
theorem ds_store (i : Nat) {tp : Pos} {k : Nat} (hr : Room k X.A) (hk : DE X W bv b fb) (hvl : DE X W bv a fa) (hN : X.N[i]? = some x := by rfl) (hv : Vis X.env.scope x := by first | exact Or.inl rfl | exact Or.inr (Or.inl rfl) | exact Or.inr (Or.inr rfl)) (hd : (x == ("__debug__" : Str)) = false := by decide) (hcd : (x == ("__classdict__" : Str)) = false := by decide)
    (ha : ∀ v, assign (.Subscript (.Name x px) b tp) X.env v = (do
      let ov ← holding [v] (eval (.Name x px) X.env)
      let iv ← holding [v, ov] (eval b X.env)
      standAt tp
      holding [v, ov, iv] (setItem ov iv v)
      release [v, ov, iv] []) := by intro _; rfl)
    (hs : swapsWithSole [.Subscript (.Name x px) b tp] a pos.line X.env = pure false := by rfl) (hw : swappedStores [.Subscript (.Name x px) b tp] a X.env = pure none := by rfl)
    (h1 : (assignEach [.Subscript (.Name x px) b tp] X.env).map (·.2) = [assign (.Subscript (.Name x px) b tp) X.env] := by rfl) :
    DS X W bv (.Assign [.Subscript (.Name x px) b tp] a pos) (storeS i fb fa) :=
  ps_imp (ps_asg hvl (pg_sub (pe_var hN hv hd hcd) hk (set_any hr) ha) hs hw h1) fun D σ H ⟨e, F, fp, S, q⟩ => by
    refine tG.mono (AtS.bnd' (r := rD X.K) S q) fun v H1 ⟨d, e1, F1, fp1, _, _, S1, r1, q1⟩ => ?_
    obtain ⟨w, hw, _⟩ := chk_S (⟨e1, F1, fp1, S1, q1⟩ : tS X.K W bv _ D σ H1)
    refine ⟨w, hw, ?_⟩
    have q2 : AtS X.K W bv (bnd fb fun k => storeM i k d) e1 σ F1 H1 fp1 D := by
      unfold AtS chk at q1
      cases hh : has i e1 with
      | true => rw [hh] at q1; exact q1
      | false => rw [hh] at q1; exact q1.elim
    refine tG.mono (AtS.bnd' (r := rD X.K) S1 q2) fun y H2 ⟨kd, e2, F2, fp2, s2, _, S2, r2, q3⟩ => ?_
    unfold AtS storeM at q3
    split at q3
    · rename_i ms he
      split at q3
      · rename_i kk
        cases r2
        split at q3
        · rename_i j hj
          split at q3
          · rename_i d0 hd0
            obtain ⟨a1, vs1, fpl1, g1, g2, g3, g4, g5⟩ := S2.lsAt he
            rw [hw] at g1
            cases g1
            obtain ⟨S3, s3⟩ := S2.upH (m := .ls (ms.set j (.im d))) (List.getElem?_eq_some_iff.mp he).1 hw g3 (.ls upd_same ((g4.set (Rp.mono s2 r1) hd0).other g5))
            exact .inl ⟨a1, vs1, kk, j, rfl, rfl, g2, by rw [g4.length]; exact hj, q3 σ F2 _ fp2 s3 S3⟩
          · exact q3.elim
        · exact q3.elim
      · exact q3.elim
    · rename_i kms he
      split at q3
      · rename_i kk hkk
        split at q3
        · rename_i hz
          rw [Bool.and_eq_true] at hz
          have ey := Rp.key r2 hkk
          subst ey
          obtain ⟨a1, kvs, fpl1, g1, g2, g3, g4, g5, g6⟩ := S2.dkAt he
          rw [hw] at g1
          cases g1
          obtain ⟨p1, p2⟩ := put_own (Rp.mono s2 r1) g4 g5 hz.2
          obtain ⟨S3, s3⟩ := S2.upH (m := .dk (putKK kms kk (.im d))) (List.getElem?_eq_some_iff.mp he).1 hw g3 (.dk upd_same p1 (p2.other g6))
          have hl : kvs.length = kms.length := by simpa using congrArg List.length g4
          exact .inr ⟨a1, _, rfl, DPut.k g2 (by have := few_le hz.1; omega), q3 σ F2 _ fp2 s3 S3⟩
        · exact q3.elim
      · exact q3.elim
    · rename_i kms he
      split at q3
      · rename_i kk hkk
        split at q3
        · rename_i hz
          rw [Bool.and_eq_true] at hz
          obtain ⟨kb, rfl, hkb⟩ := Rp.keyT r2 hkk
          obtain ⟨a1, kvs, fpl1, g1, g2, g3, g4, g5, g6⟩ := S2.dtAt he
          rw [hw] at g1
          cases g1
          obtain ⟨p1, p2⟩ := put_own (Rp.mono s2 r1) g4 g5 hz.2
          obtain ⟨S3, s3⟩ := S2.upH (m := .dt (putKK kms kk (.im d))) (List.getElem?_eq_some_iff.mp he).1 hw g3 (.dt upd_same p1 (p2.other g6))
          have hl : kvs.length = kms.length := by simpa using congrArg List.length g4
          exact .inr ⟨a1, _, rfl, DPut.t g2 (S2.sub.tp _ _ hkb) (by have := few_le hz.1; omega), q3 σ F2 _ fp2 s3 S3⟩
        · exact q3.elim
      · exact q3.elim
    · exact q3.elim
/-! ### in, of what is owned -/
end
end FD
/-! FD: tests on what is owned; what a generator's terms stand on: names of the module, its defs. -/
namespace FD
variable [TabT]
open PySem L2
section
variable {X : Cx} {W : WX} {bv : Nat → Option V} {pos p px apos cpos : Pos} {a b c : Expr} {es : List Expr} {fa fb fc : EM D} {fs : EM (List D)} {x : Str}
theorem dt_neP (i : Nat) {k : Nat} (hr : Room k X.A) (hb : DE X W bv b fb) (hN : X.N[i]? = some x := by rfl) (hv : Vis X.env.scope x := by first | exact Or.inl rfl | exact Or.inr (Or.inl rfl) | exact Or.inr (Or.inr rfl)) (hd : (x == ("__debug__" : Str)) = false := by decide) (hcd : (x == ("__classdict__" : Str)) = false := by decide) :
    DT X W bv (.Compare (.Name x px) [.NotEq] [b] pos) (tst (pkL i neD fb)) :=
  pt_imp (pt_cmpR (OpR.or op_ne (op_neD hr.units)) (pe_var hN hv hd hcd) hb (by first | exact nomark _ | rfl)) fun σ H Q t => pkL_of op_neP (tst_of t)
/-! ### names of the module -/
def Con (mg : Str → Option Value) (x : Str) (d : D) : Prop := flatD d = true ∧ ∃ u, mg x = some u ∧ RelV (flatOf d) u
theorem de_con {d : D} (h : Con X.mg x d) (hg : Gl X x := by rfl) (hd : (x == ("__debug__" : Str)) = false := by decide) : DE X W bv (.Name x pos) (ret d) := by
  obtain ⟨f, u, hm, r⟩ := h
  exact de_glob f hm r hg hd
end
section
variable (P : Program) (w : World) (K : PySem.W.Frag) (mg : Str → Option Value) (base : Heap)
/-- the name x is a def that does what Fs says, called by place -/
def Has (k : Nat) (x : Str) (ps : List Str) (Fs : List M → FOut) : Prop := ∃ f fd, FnG P w K mg base k f fd ps (spF K Fs) ∧ mg x = some (.ref f) ∧ PySem.W.keepIn K (.ref f) = true ∧ Binds K fd ps []
/-- the same, called with n values by place and the keywords ks -/
def HasK (k : Nat) (x : Str) (ps : List Str) (Fs : List M → FOut) (n : Nat) (ks : List Str) (ix : List (Nat ⊕ Nat)) (ds : List D) : Prop := ∃ f fd, FnG P w K mg base k f fd ps (spF K Fs) ∧ mg x = some (.ref f) ∧ PySem.W.keepIn K (.ref f) = true ∧ KBG K fd ps n ks ix ds
def FunAt (x : Str) (st : Stmt) : Prop := ∃ f fd, Fun K x x st f fd ∧ mg x = some (.ref f)
def FunDAt (x : Str) (st : Stmt) (kws : List (Str × V)) : Prop := ∃ f fd, FunD K x x (defArgs st) (defBody st) (defScope st) [] kws f fd ∧ mg x = some (.ref f)
end
section
variable {X : Cx} {W : WX} {bv : Nat → Option V} {pos p : Pos} {a : Expr} {es : List Expr} {fr frk : EM (List AR)} {kws : List Keyword} {x : Str} {k n m : Nat} {ps ks : List Str} {Fs : List M → FOut} {ix : List (Nat ⊕ Nat)} {ds : List D}
theorem dm_callH (h : Has X.prog X.w X.K X.mg X.base k x ps Fs) (hgd : X.A.guards = some []) (hr : Room k X.A) (ha : DR X W bv (a :: es) fr) (hg : Gl X x := by rfl) (hdb : (x == ("__debug__" : Str)) = false := by decide) (he : starEach (a :: es) X.env = (false, eval a X.env) :: starEach es X.env := by rfl) (hpl : (backTo pos (starEach es X.env)).any (·.1) = false := by rfl) :
    DM X W bv (.Call (.Name x p) (a :: es) [] pos) (callM Fs fr) := by
  obtain ⟨f, fd, G, hm, hk, hb⟩ := h
  exact dm_call G hgd hr hm hk hb ha hg hdb he hpl
theorem de_callH (h : Has X.prog X.w X.K X.mg X.base k x ps Fs) (hgd : X.A.guards = some []) (hr : Room k X.A) (ha : DR X W bv (a :: es) fr) (hg : Gl X x := by rfl) (hdb : (x == ("__debug__" : Str)) = false := by decide) (he : starEach (a :: es) X.env = (false, eval a X.env) :: starEach es X.env := by rfl) (hpl : (backTo pos (starEach es X.env)).any (·.1) = false := by rfl) :
    DE X W bv (.Call (.Name x p) (a :: es) [] pos) (callD Fs fr) := by
  obtain ⟨f, fd, G, hm, hk, hb⟩ := h
  exact de_call G hgd hr hm hk hb ha hg hdb he hpl
theorem de_callHK (h : HasK X.prog X.w X.K X.mg X.base k x ps Fs n ks ix ds) (hgd : X.A.guards = some []) (hr : Room k X.A) (ha : DR X W bv (a :: es) fr) (hkw : DK X W bv kws frk) (hg : Gl X x := by rfl) (hdb : (x == ("__debug__" : Str)) = false := by decide) (hall : (backToKw pos (keywordEach kws X.env)).all (·.1.isSome) = true := by rfl) (hks : (backToKw pos (keywordEach kws X.env)).filterMap (·.1) = ks := by rfl) (hml : ks.length = m := by rfl)
    (he : starEach (a :: es) X.env = (false, eval a X.env) :: starEach es X.env := by rfl) (hpl : ((backTo pos (starEach (a :: es) X.env)).any (·.1) || (backToKw pos (keywordEach kws X.env)).any (·.1.isNone)) = false := by rfl) :
    DE X W bv (.Call (.Name x p) (a :: es) kws pos) (callD Fs (kwA n m ix ds fr frk)) := by
  subst hml
  obtain ⟨f, fd, G, hm, hk, hb⟩ := h
  exact de_callK G hgd hr hm hk hb ha hkw hg hdb hall hks he hpl
end
section
variable {P : Program} {w : World} {K : PySem.W.Frag} {mg : Str → Option Value} {base : Heap} {x : Str} {st : Stmt} {k : Nat} {N ps : List Str} {B : List Nat} {g : EM Flow}
/-- the derivation of a def's body -/
def Body (P : Program) (w : World) (K : PySem.W.Frag) (mg : Str → Option Value) (base : Heap) (k : Nat) (x : Str) (st : Stmt) (N : List Str) (B : List Nat) (g : EM Flow) : Prop := ∀ (f : Addr) (cdv : Value) (A : Around) (outer : List PySem.Env) (s : Shared) (H : Hp) (vs : List V) (E : XK), (A.deeper (PyProof.Rows.envOfC x (defScope st) s.heap.objs.size f cdv)).guards = some [] →
  Room k (A.deeper (PyProof.Rows.envOfC x (defScope st) s.heap.objs.size f cdv)) → DSs (cxOf CX0 P w K mg base N x (defScope st) f cdv A outer s H E).nox W0 (bvB B vs) (defBody st) g
theorem has_of (Fn : FunAt K mg x st) (Sc : FnScope N ps (defScope st)) (hb : Body P w K mg base k x st N B g)
    (bi : ∀ (kV doc pm : Value) (an : Option Addr) (cdv ct : Value) (us : List Value), us.length = ps.length → bindArgs (PySem.W.fnOf x x (defArgs st) (defBody st) (defScope st) .none kV doc pm an cdv ct) ⟨us, []⟩ = pure (ps.zip us)) : Has P w K mg base (k + 1) x ps (defF ps.length N.length B g) := by
  obtain ⟨f, fd, Fn, hm⟩ := Fn
  exact ⟨f, fd, fn_F Fn Sc fun cdv A outer s H vs E hg hr => hb f cdv A outer s H vs E hg hr, hm, Fn.kp, Fn.binds bi⟩
theorem hasD_of {n : Nat} {ks : List Str} {ix : List (Nat ⊕ Nat)} {kws : List (Str × V)} {ms : List (Str × D)} (Fn : FunDAt K mg x st kws) (Sc : FnScope N ps (defScope st)) (hb : Body P w K mg base k x st N B g) (hk : kws ≠ []) (hms : ∀ q ∈ ms, (q.1, flatOf q.2) ∈ kws) (fl : flatAll (ms.map (·.2)) = true) (ok : okIx (n + ks.length) ms.length ix = true)
    (h : ∀ (D : Addr) (doc pm : Value) (an : Option Addr) (cdv ct : Value) (us ws mv : List Value), us.length = n → ws.length = ks.length → mv.length = ms.length →
      KwChain D ((ms.map (·.1)).zip mv) (bindArgs (PySem.W.fnOf x x (defArgs st) (defBody st) (defScope st) .none (.ref D) doc pm an cdv ct) ⟨us, ks.zip ws⟩) (ps.zip (pick (us ++ ws) mv ix))) : HasK P w K mg base (k + 1) x ps (defF ps.length N.length B g) n ks ix (ms.map (·.2)) := by
  obtain ⟨f, fd, Fn, hm⟩ := Fn
  exact ⟨f, fd, fn_F (Fun.of_D Fn) Sc fun cdv A outer s H vs E hg hr => hb f cdv A outer s H vs E hg hr, hm, Fn.kp, kb_kw Fn n ks ix ms hk hms fl ok h⟩
end
/-- the law's own call -/
theorem law_hs {g : List M → FOut} {n : Nat} (h : ∀ ns : List Int, ns.length ≤ n → ∃ ms', g [.im (.list (ns.map .int))] = .ok (.im (.bool true)) ms') (K : PySem.W.Frag) (H : Hp) (a : Addr) (ns : List Int) (hl : ns.length ≤ n) (hs : SqL K H a (ns.map V.int)) (tb : LamX.Tabs TabT.tabs H) : spF K g [.ref a] H (fun v _ => v = .bl true) fun _ _ _ => False := by
  obtain ⟨ms', e⟩ := h ns hl
  obtain ⟨F, hF⟩ : ∃ F : Hp, F = fun b => if b = a then H b else none := ⟨_, rfl⟩
  have fa : F a = H a := by rw [hF]; exact if_pos rfl
  have fo : ∀ b, b ≠ a → F b = none := fun b h => by rw [hF]; exact if_neg h
  have sub : Sub F H := by
    refine ⟨fun b u _ r => ?_, fun b u _ r => ?_, fun b q => ?_⟩
    · by_cases z : b = a
      · subst z; exact rd_at fa.symm r
      · exact absurd r (rd_none (fo b z))
    · by_cases z : b = a
      · subst z; rw [← fa]; exact r
      · rw [fo b z] at r; cases r
    · by_cases z : b = a
      · subst z; rw [fa]; exact q
      · exact fo b z
  have rl : RpL K F (ns.map V.int) (ns.map .int) := by
    induction ns with
    | nil => exact .nil
    | cons i r ih => exact .cons (.int i) (by
        clear ih e hs hl
        induction r with
        | nil => exact .nil
        | cons j r ih => exact .cons (.int j) ih)
  refine ⟨[.im (.list (ns.map .int))], F, fun _ => [], ⟨sub, fun i m hm => ?_, (fun i a h => by cases h), (fun _ => List.nodup_nil), (fun _ _ _ h => by cases h), (fun _ _ h => by cases h), (fun _ _ h => by cases h), rfl, tb⟩, ?_⟩
  · cases i with
    | zero =>
      simp at hm
      subst hm
      exact ⟨_, rfl, .im (.lst (hs.imp (fun r => rd_at fa r) id) rl)⟩
    | succ i => simp at hm
  · rw [e]
    intro v F' H' fp' P' s' S' ⟨fpr, hP, o, _⟩
    cases o with
    | im r => cases r; rfl
end FD
/-! FD: a dict walked key by key: from then on nobody changes it. -/
namespace FD
variable [TabT]
open PySem L2
/-- the keys of a dict that is known to the object from now on -/
def iKeysF (td : TE) : TI := fun σ H R => td σ H fun x H1 => ∃ d, x = .ref d ∧
  ((∃ kvs, H1 d = some (.dT kvs) ∧ ∀ od, R (Itkt d od kvs) (upd H1 d (.frz od (.dT kvs)))) ∨ (∃ od kvs, H1 d = some (.frz od (.dT kvs)) ∧ R (Itkt d od kvs) H1) ∨
   (∃ kvs, H1 d = some (.dK kvs) ∧ ∀ od, R (Itk d od kvs) (upd H1 d (.frz od (.dK kvs)))) ∨ ∃ od kvs, H1 d = some (.frz od (.dK kvs)) ∧ R (Itk d od kvs) H1)
section
variable {X : Cx} {tg e : Expr} {td : TE}
theorem pi_keysF (he : PE X e td) : PI X tg e (iKeysF td) := by
  refine ⟨fun pins s σ H R I h => ?_⟩
  refine thn (he.run pins s σ H _ I h) fun u s1 ⟨x, H1, I1, rx, d, ex, q⟩ => ?_
  subst ex
  obtain rfl : u = Value.ref d := rx
  rcases q with ⟨kvs, hd, q⟩ | ⟨o, kvs, hd, q⟩ | ⟨kvs, hd, q⟩ | ⟨o, kvs, hd, q⟩
  · obtain ⟨od, I2⟩ := I1.lock hd trivial
    obtain ⟨hs, hgd, hx, es, ep, hdt, hsz, ent⟩ := I2.frzT upd_same
    refine iter_keys hs hgd hx hdt (pi_one (tk := s1.toks) I2 _ (turn_keysT _ hdt) ⟨_, Heap.get?_push_size _ rfl, rfl, ?_⟩ (q od))
    rw [hsz] <;> rfl
  · obtain ⟨hs, hgd, hx, es, ep, hdt, hsz, ent⟩ := I1.frzT hd
    refine iter_keys hs hgd hx hdt (pi_one (tk := s1.toks) I1 _ (turn_keysT _ hdt) ⟨_, Heap.get?_push_size _ rfl, rfl, ?_⟩ q)
    rw [hsz] <;> rfl
  · obtain ⟨od, I2⟩ := I1.lock hd trivial
    obtain ⟨hs, hgd, hx, es, ep, vs, hdt, hsz, kv, hm⟩ := I2.frzK upd_same
    refine iter_keys hs hgd hx hdt (pi_one (tk := s1.toks) I2 _ (turn_keys _ hdt) ⟨_, Heap.get?_push_size _ rfl, rfl, ?_⟩ (q od))
    rw [hsz] <;> rfl
  · obtain ⟨hs, hgd, hx, es, ep, vs, hdt, hsz, kv, hm⟩ := I1.frzK hd
    refine iter_keys hs hgd hx hdt (pi_one (tk := s1.toks) I1 _ (turn_keys _ hdt) ⟨_, Heap.get?_push_size _ rfl, rfl, ?_⟩ q)
    rw [hsz] <;> rfl
end
/-! ### what F knows of it is that it is known -/
section
variable {F H : Hp} {d : Addr} {u : HO}
/-- F told plain, H plain: both locked -/
theorem nx_dT (kvs : List (List Key × V)) : ¬ Exct (.dT kvs) := fun h => h.1.2 kvs rfl
theorem nx_dK (kvs : List (Key × V)) : ¬ Exct (.dK kvs) := fun h => h.1.1 kvs rfl
theorem lock_sub {od : Obj} (s : Sub F H) (hF : Rd F d u) (hH : H d = some u) (nx : ¬ Exct u) : Sub F (upd F d (.frz od u)) ∧ Sub (upd F d (.frz od u)) (upd H d (.frz od u)) := by
  have fd : F d = some u := by
    rcases hF with z | ⟨o, z⟩
    · exact z
    · have := s.fz _ _ _ z
      rw [hH] at this
      cases this
  refine ⟨⟨fun a w _ r => ?_, fun a w x q => ?_, fun a q => ?_⟩, s.both⟩
  · by_cases e : a = d
    · subst e
      rcases r with r | ⟨o, r⟩
      · rw [fd] at r; cases r; exact .inr ⟨_, upd_same⟩
      · rw [fd] at r; cases r; exact absurd (ex_frz _ _) nx
    · exact rd_at (upd_ne e) r
  · by_cases e : a = d
    · subst e
      rw [fd] at q; cases q; exact absurd x nx
    · rw [upd_ne e]; exact q
  · by_cases e : a = d
    · subst e; rw [upd_same] at q; cases q
    · rw [upd_ne e] at q; exact q
/-- H known already -/
theorem know_sub {od : Obj} (s : Sub F H) (hF : Rd F d u) (hH : H d = some (.frz od u)) (nx : ¬ Exct u) : Sub F (upd F d (.frz od u)) ∧ Sub (upd F d (.frz od u)) H := by
  have ru : ∀ w, Rd (upd F d (.frz od u)) d w → Rd H d w := fun w r => rd_at (by rw [hH, upd_same]) r
  refine ⟨⟨fun a w t r => ?_, fun a w x q => ?_, fun a q => ?_⟩, ⟨fun a w t r => ?_, fun a w x q => ?_, fun a q => ?_⟩⟩
  · by_cases e : a = d
    · subst e
      exact rd_at (by rw [hH, upd_same]) (s.rdN _ _ t r)
    · exact rd_at (upd_ne e) r
  · by_cases e : a = d
    · subst e
      have := s.ex _ _ x q
      rw [hH] at this; cases this; exact upd_same
    · rw [upd_ne e]; exact q
  · by_cases e : a = d
    · subst e; rw [upd_same] at q; cases q
    · rw [upd_ne e] at q; exact q
  · by_cases e : a = d
    · subst e; exact ru w r
    · exact s.rdN a w t (rd_at (upd_ne e).symm r)
  · by_cases e : a = d
    · subst e; rw [upd_same] at q; rw [hH]; exact q
    · rw [upd_ne e] at q; exact s.ex a w x q
  · by_cases e : a = d
    · subst e; rw [hH] at q; cases q
    · rw [upd_ne e]; exact s.nn a q
end
/-- a dict known from now on: the state -/
theorem SS.known {K : PySem.W.Frag} {bv : Nat → Option V} {e : Env} {σ : L2.St} {F H : Hp} {fp : Nat → List Addr} {d : Addr} {u : HO} (S : SS K bv e σ F H fp) (hF : Rd F d u) (nx : ¬ Exct u) (ntb : Nt u := by exact fun _ z => nomatch z) :
    (H d = some u ∧ ∀ od, Stp F H (Pf fp) (upd F d (.frz od u)) (upd H d (.frz od u)) (Pf fp) ∧ SS K bv e σ (upd F d (.frz od u)) (upd H d (.frz od u)) fp) ∨
    ∃ od, H d = some (.frz od u) ∧ Stp F H (Pf fp) (upd F d (.frz od u)) H (Pf fp) ∧ SS K bv e σ (upd F d (.frz od u)) H fp := by
  have nt : ∀ vs, u ≠ fxO vs := fun vs z => by
    cases vs with
    | inl vs => exact nx (z ▸ ex_tup vs)
    | inr φ => exact nx (z ▸ ⟨⟨(fun _ z => nomatch z), (fun _ z => nomatch z)⟩, (fun _ z => nomatch z)⟩)
  have nte : ∀ f, u ≠ .ext f := fun ps z => nx (z ▸ ⟨⟨(fun _ z => nomatch z), (fun _ z => nomatch z)⟩, (fun _ z => nomatch z)⟩)
  have fn : F d ≠ none := fun z => by
    rcases hF with q | ⟨_, q⟩ <;> rw [z] at q <;> cases q
  have off : ∀ i a, a ∈ fp i → a ≠ d := fun i a h z => fn (by rw [← z]; exact S.fr i a h)
  have newF : ∀ od a, upd F d (.frz od u) a ≠ none → F a ≠ none ∨ Pf fp a ∨ Nw H a := fun od a h => by
    by_cases e : a = d
    · subst e; exact .inl fn
    · rw [upd_ne e] at h; exact .inl h
  rcases S.sub.rd d u hF ntb with hH | ⟨od, hH⟩
  · refine .inl ⟨hH, fun od => ?_⟩
    obtain ⟨s1, s2⟩ := lock_sub (od := od) S.sub hF hH nx
    refine ⟨⟨s1, fun a o h n f _ => ?_, fun a h => ?_, fun a ps h => ⟨ps, by rw [upd_ne fun z => by rw [z, hH] at h; cases h; exact ntb ps rfl]; exact h⟩, newF od, fun _ h => .inl h⟩, S.heap s1 s2 (fun i a o h q => ?_) (fun i a h => ?_) (tabs_upd S.tab hH ntb nte)⟩
    · by_cases e : a = d
      · subst e
        rcases f with f | ⟨vs, f⟩
        · exact absurd f fn
        · rw [hH] at h; cases h; exact absurd f (nt vs)
      · rw [upd_ne e]; exact h
    · by_cases e : a = d
      · subst e; rw [upd_same] at h; cases h
      · rw [upd_ne e] at h; exact h
    · rw [upd_ne (off i a h)]; exact q
    · rw [upd_ne (off i a h)]; exact S.fr i a h
  · obtain ⟨s1, s2⟩ := know_sub (od := od) S.sub hF hH nx
    refine .inr ⟨od, hH, ⟨s1, fun _ _ h _ _ _ => h, fun _ h => h, fun _ _ h => ⟨_, h⟩, newF od, fun _ h => .inl h⟩, S.heap s1 s2 (fun _ _ _ _ q => q) fun i a h => ?_⟩
    rw [upd_ne (off i a h)]; exact S.fr i a h
def itK : D → Option (List D)
  | .dict kvs => if ktB kvs = true then none else some (kvs.map (·.1))
  | _ => none
theorem kV_rp {K : PySem.W.Frag} {F : Hp} : ∀ k : Key, Rp K F (kV k) (keyD k)
  | .inl i => .int i
  | .inr x => .str x
theorem kVs_rp {K : PySem.W.Frag} {F : Hp} : ∀ ks : List Key, RpL K F (ks.map kV) (ks.map keyD)
  | [] => .nil
  | k :: ks => .cons (kV_rp k) (kVs_rp ks)
theorem walks_keysT {K : PySem.W.Frag} {F : Hp} {d : Addr} {od : Obj} {kvs : List (List Key × V)} {kds : List (List Key × D)} (hF : F d = some (.frz od (.dT kvs))) (hk : kvs.map (·.1) = kds.map (·.1)) :
    WalksD K (Itkt d od kvs) F ((kds.map fun p => (PyData.tuple (p.1.map keyD), p.2)).map (·.1)) := fun F' H i s1 s2 => by
  have hl : kvs.length = kds.length := by have := congrArg List.length hk; simpa using this
  have hH : H d = some (.frz od (.dT kvs)) := s2.fz _ _ _ (s1.fz _ _ _ hF)
  refine ⟨fun y hy => ?_, fun h1 _ => ⟨hH, by simp at h1; omega⟩⟩
  rw [List.map_map, List.getElem?_map] at hy
  obtain ⟨q, hq, rfl⟩ := Option.map_eq_some_iff.mp hy
  have hi : i < kds.length := (List.getElem?_eq_some_iff.mp hq).1
  refine ⟨⟨hH, by omega⟩, ?_⟩
  rintro x H' ⟨rfl, k, v, p, h1, rfl, h3⟩
  refine ⟨_, .inr (.inr ⟨p, _, h3, .inl ⟨rfl, rfl⟩⟩), ?_⟩
  have e1 : (kvs.map (·.1))[i]? = some k := by rw [List.getElem?_map, h1]; rfl
  rw [hk, List.getElem?_map, hq] at e1
  cases e1
  exact .tup upd_same (kVs_rp _)
theorem walks_keys {K : PySem.W.Frag} {F : Hp} {d : Addr} {od : Obj} {kvs : List (Key × V)} {kds : List (Key × D)} (hF : F d = some (.frz od (.dK kvs))) (hk : kvs.map (·.1) = kds.map (·.1)) :
    WalksD K (Itk d od kvs) F ((kds.map fun p => (keyD p.1, p.2)).map (·.1)) := fun F' H i s1 s2 => by
  have hl : kvs.length = kds.length := by have := congrArg List.length hk; simpa using this
  have hH : H d = some (.frz od (.dK kvs)) := s2.fz _ _ _ (s1.fz _ _ _ hF)
  refine ⟨fun y hy => ?_, fun h1 _ => ⟨hH, by simp at h1; omega⟩⟩
  rw [List.map_map, List.getElem?_map] at hy
  obtain ⟨q, hq, rfl⟩ := Option.map_eq_some_iff.mp hy
  have hi : i < kds.length := (List.getElem?_eq_some_iff.mp hq).1
  refine ⟨⟨hH, by omega⟩, ?_⟩
  rintro x H' ⟨rfl, k, v, h1, rfl⟩
  refine ⟨_, .inl ⟨rfl, rfl⟩, ?_⟩
  have e1 : (kvs.map (·.1))[i]? = some k := by rw [List.getElem?_map, h1]; rfl
  rw [hk, List.getElem?_map, hq] at e1
  cases e1
  exact kV_rp _
section
variable {X : Cx} {W : WX} {bv : Nat → Option V} {a : Expr} {fa : EM D}
theorem di_keys {tg : Expr} (h : DE X W bv a fa) : DI X W bv tg a (itE itK fa) :=
  pi_imp (pi_keysF h) fun σ H R t => tG.mono (tI_bnd t) fun x H1 ⟨d, e1, F1, fp1, ds, S1, r1, hk, q⟩ => by
    cases r1 with
    | dT hd e r =>
      unfold itK at hk
      simp only [ktB_dT, Bool.false_eq_true, if_false, Option.some.injEq] at hk
      subst hk
      refine ⟨_, rfl, ?_⟩
      rcases S1.known hd (nx_dT _) with ⟨hH, k⟩ | ⟨od, hH, st, S2⟩
      · exact .inl ⟨_, hH, fun od => q _ _ _ fp1 (k od).1 (k od).2 (walks_keysT upd_same e)⟩
      · exact .inr (.inl ⟨od, _, hH, q _ _ _ fp1 st S2 (walks_keysT upd_same e)⟩)
    | dK hd e r =>
      unfold itK at hk
      simp only [ktB_dK, Bool.false_eq_true, if_false, Option.some.injEq] at hk
      subst hk
      refine ⟨_, rfl, ?_⟩
      rcases S1.known hd (nx_dK _) with ⟨hH, k⟩ | ⟨od, hH, st, S2⟩
      · exact .inr (.inr (.inl ⟨_, hH, fun od => q _ _ _ fp1 (k od).1 (k od).2 (walks_keys upd_same e)⟩))
      · exact .inr (.inr (.inr ⟨od, _, hH, q _ _ _ fp1 st S2 (walks_keys upd_same e)⟩))
    | kt _ hn _ =>
      unfold itK ktD at hk
      simp only [ktB_kt hn, if_true] at hk
      cases hk
    | opq _ => cases hk
    | fn _ => cases hk
    | _ => cases hk
def itX : D → Option (List D)
  | .list ds => some ds
  | .tuple ds => some ds
  | .str x => some (x.cps.toList.map fun c => .str ⟨#[c]⟩)
  | .dict kvs => if ktB kvs = true then none else some (kvs.map (·.1))
  | _ => none
theorem di_any {tg : Expr} (h : DE X W bv a fa) : DI X W bv tg a (itE itX fa) :=
  pi_case fun e => by
    unfold itE bnd
    cases z : fa e with
    | no => exact ⟨itE itL fa, by unfold itE bnd; rw [z], di_list h⟩
    | ex C fs' e' => exact ⟨itE itL fa, by unfold itE bnd; rw [z], di_list h⟩
    | ok d e1 =>
      cases d with
      | tuple ds => exact ⟨itE itT fa, by unfold itE bnd; rw [z]; rfl, di_tup h⟩
      | str ds => exact ⟨itE itS fa, by unfold itE bnd; rw [z]; rfl, di_str h⟩
      | dict ds => exact ⟨itE itK fa, by unfold itE bnd; rw [z]; rfl, di_keys h⟩
      | _ => exact ⟨itE itL fa, by unfold itE bnd; rw [z]; rfl, di_list h⟩
end
end FD
/-! FD: a comprehension's list that its taker owns; extend, pop; sorted. -/
namespace FD
variable [TabT]
open PySem L2
def compM (vs : List Nat) (fi : EM (List D)) (t : D → EM Unit) (tt : EM Bool) (te : EM D) : EM M := bnd fi fun ds e => if vs.all (imAt e) then (match compL vs t tt te ds (wipeE e vs) with
  | .ok ys e1 => if few ys.length && vs.all (imAt e1) then .ok (.ls (ys.map .im)) (backE e1 e vs) else .no
  | _ => .no) else .no
section
variable {X : Cx} {W : WX} {bv : Nat → Option V} {pos : Pos}
/-! ### xs.extend(e) -/
def extM (i : Nat) (m : M) : EM Flow := fun e => match m with
  | .ls ns => (match imAll ns with
    | some ds => (match e[i]? with
      | some (some (.ls ms)) => if few (ms.length + ds.length) then .ok .nxt (e.set i (some (.ls (ms ++ ds.map .im)))) else .no
      | _ => .no)
    | none => .no)
  | _ => .no
def extS (i : Nat) (f : EM M) : EM Flow := fun e => if isLs i e then bnd f (fun d => extM i d) e else .no
end
/-! ### sorted -/
theorem perm_uniq {α : Type} {r : α → α → Prop} (anti : ∀ a b, r a b → r b a → a = b) : ∀ {l m : List α}, l.Pairwise r → m.Pairwise r → l.Perm m → l = m
  | [], m, _, _, p => (List.Perm.eq_nil p.symm).symm
  | a :: l, [], _, _, p => absurd p.length_eq (by simp)
  | a :: l, b :: m, hl, hm, p => by
    have e : a = b := by
      rcases List.mem_cons.mp (p.mem_iff.mp (List.mem_cons_self (a := a) (l := l))) with h | h
      · exact h
      · rcases List.mem_cons.mp (p.mem_iff.mpr (List.mem_cons_self (a := b) (l := m))) with h' | h'
        · exact h'.symm
        · exact anti a b ((List.pairwise_cons.mp hl).1 b h') ((List.pairwise_cons.mp hm).1 a h)
    subst e
    rw [perm_uniq anti (List.pairwise_cons.mp hl).2 (List.pairwise_cons.mp hm).2 p.cons_inv]
def leS (a b : Str) : Bool := !PySem.Spec.ltCps b.cps.toList a.cps.toList
theorem leS_iff {a b : Str} : leS a b = true ↔ a.cps.toList ≤ b.cps.toList := by
  unfold leS
  rw [PyProof.Rows.ltCps_eq]
  simp
theorem leS_trans (a b c : Str) (h1 : leS a b = true) (h2 : leS b c = true) : leS a c = true := leS_iff.mpr (List.le_trans (leS_iff.mp h1) (leS_iff.mp h2))
theorem leS_total (a b : Str) : (leS a b || leS b a) = true := by
  rw [Bool.or_eq_true, leS_iff, leS_iff]
  exact List.le_total _ _
theorem leS_anti (a b : Str) (h1 : leS a b = true) (h2 : leS b a = true) : a = b := by
  have e := List.le_antisymm (leS_iff.mp h1) (leS_iff.mp h2)
  cases a; cases b
  simp at e
  rw [e]
theorem leS_rising : ∀ {p : Str} {l : List Str}, PyProof.Rows.risingS p l = true → (p :: l).Pairwise fun a b => leS a b = true
  | p, [], _ => List.pairwise_singleton _ _
  | p, x :: r, h => by
    simp only [PyProof.Rows.risingS, Bool.and_eq_true] at h
    have ih := leS_rising h.2
    refine List.pairwise_cons.mpr ⟨fun y hy => ?_, ih⟩
    rcases List.mem_cons.mp hy with e | hy
    · rw [e]; exact h.1
    · exact leS_trans p x y h.1 ((List.pairwise_cons.mp ih).1 y hy)
theorem leS_sorted {l : List Str} (h : PyProof.Rows.sortedS l = true) : l.Pairwise fun a b => leS a b = true := by
  cases l with
  | nil => exact List.Pairwise.nil
  | cons x r => exact leS_rising h
def srtS (xs : List Str) : List Str := xs.mergeSort leS
theorem srtS_of {xs ys : List Str} (p : ys.Perm xs) (h : PyProof.Rows.sortedS ys = true) : ys = srtS xs :=
  perm_uniq (r := fun a b => leS a b = true) leS_anti (leS_sorted h) (List.pairwise_mergeSort leS_trans leS_total xs) (p.trans (List.mergeSort_perm xs leS).symm)
def strsOf : List D → Option (List Str)
  | [] => some []
  | .str b :: r => (strsOf r).map (b :: ·)
  | _ => none
end FD
namespace FD
variable [TabT]
open PySem L2
/-! ### a, b = data, a thing to own -/
def parDM (i j : Nat) (fa : EM D) (fm : EM M) : EM Flow := bnd fa fun d => bnd fm fun m => seqS (stoM j m) (stoM i (.im d))
end FD
/-! FD: objects: ways into what a slot owns. -/
namespace FD
variable [TabT]
open PySem L2
/-- a way into objects: the class of each, and the field; no class: a dict, and the text -/
abbrev Way := List (Str × Str)
def putG {α : Type} (f : Str) (v : α) : List (Str × α) → List (Str × α)
  | [] => [(f, v)]
  | (g, x) :: r => if g = f then (g, v) :: r else (g, x) :: putG f v r
def updK {α : Type} (k : Key) (v : α) : List (Key × α) → List (Key × α)
  | [] => []
  | (g, x) :: r => if g = k then (g, v) :: r else (g, x) :: updK k v r
theorem updK_names {α : Type} (k : Key) (v : α) : ∀ l : List (Key × α), (updK k v l).map (·.1) = l.map (·.1)
  | [] => rfl
  | (g, x) :: r => by
    unfold updK
    split
    · rfl
    · rw [List.map_cons, List.map_cons, updK_names k v r]
section
variable {K : PySem.W.Frag} {F H : Hp}
theorem OwnL.key {k : Key} {m : M} : ∀ {kvs : List (Key × V)} {kms : List (Key × M)} {fq : List Addr}, kvs.map (·.1) = kms.map (·.1) → OwnL K F H (kvs.map (·.2)) (kms.map (·.2)) fq → lookK kms k = some m →
    ∃ v l r, valV kvs k = some v ∧ Own K F H v m l ∧ fq.Perm (l ++ r) ∧ ∀ F' H' m' l', Sub F F' → (∀ a ∈ r, ∀ o, H a = some o → H' a = some o) → Own K F' H' v m' l' → ∃ fq', fq'.Perm (l' ++ r) ∧ OwnL K F' H' (kvs.map (·.2)) ((updK k m' kms).map (·.2)) fq'
  | [], [], _, _, _, h => by cases h
  | [], _ :: _, _, h, _, _ => by simp at h
  | _ :: _, [], _, h, _, _ => by simp at h
  | (g, x) :: fs, (g', y) :: fms, fq, hn, ho, hl => by
    simp only [List.map_cons, List.cons.injEq] at hn
    obtain ⟨rfl, hn⟩ := hn
    simp only [List.map_cons] at ho
    cases ho with
    | cons o t =>
      rename_i fp fr
      by_cases e : g = k
      · subst e
        rw [lookK_pos rfl] at hl
        cases hl
        refine ⟨x, fp, fr, valV_pos rfl, o, List.Perm.refl _, fun F' H' m' l' s k o' => ⟨l' ++ fr, List.Perm.refl _, ?_⟩⟩
        unfold updK
        rw [if_pos rfl]
        exact .cons o' (t.mono s k)
      · rw [lookK_neg e] at hl
        obtain ⟨v, l, r, h1, h2, h3, h4⟩ := OwnL.key hn t hl
        refine ⟨v, l, fp ++ r, (valV_neg e).trans h1, h2, ?_, fun F' H' m' l' s k o' => ?_⟩
        · refine (List.Perm.append_left fp h3).trans ?_
          rw [← List.append_assoc, ← List.append_assoc]
          exact List.Perm.append_right r List.perm_append_comm
        · obtain ⟨fq', p', t'⟩ := h4 F' H' m' l' s (fun a ha => k a (List.mem_append_right _ ha)) o'
          refine ⟨fp ++ fq', ?_, ?_⟩
          · refine (List.Perm.append_left fp p').trans ?_
            rw [← List.append_assoc, ← List.append_assoc]
            exact List.Perm.append_right r List.perm_append_comm
          · unfold updK
            rw [if_neg e]
            exact .cons (o.mono s fun a ha => k a (List.mem_append_left _ ha)) t'
end
def getP : Way → M → Option M
  | [], m => some m
  | (D, f) :: π, m => match m with
    | .ob C fs => if C = D ∧ D ≠ "" then (fs.lookup f).bind (getP π) else none
    | .dk kms => if D = "" then (lookK kms (.inr f)).bind (getP π) else none
    | _ => none
def setP : Way → M → M → M
  | [], _, n => n
  | (_, f) :: π, m, n => match m with
    | .ob C fs => match fs.lookup f with
      | some m1 => .ob C (putG f (setP π m1 n) fs)
      | none => .ob C fs
    | .dk kms => match lookK kms (.inr f) with
      | some m1 => .dk (updK (.inr f) (setP π m1 n) kms)
      | none => .dk kms
    | m => m
def PathV (K : PySem.W.Frag) (H : Hp) : Way → V → V → Prop
  | [], v, v' => v' = v
  | (C, f) :: π, v, v' => (C ≠ "" ∧ ∃ a ca dx fs u, v = .ref a ∧ PySem.W.nsIn K mainGlobals C = some (some (.ref ca)) ∧ H a = some (.ins ca dx fs) ∧ fs.lookup f = some u ∧ PathV K H π u v') ∨
    (C = "" ∧ ∃ a kvs u, v = .ref a ∧ H a = some (.dK kvs) ∧ lookK kvs (.inr f) = some u ∧ PathV K H π u v')
theorem putG_names {α β : Type} (f : Str) (v : α) (w : β) : ∀ {fs : List (Str × α)} {gs : List (Str × β)}, fs.map (·.1) = gs.map (·.1) → (putG f v fs).map (·.1) = (putG f w gs).map (·.1)
  | [], [], _ => rfl
  | [], _ :: _, h => by simp at h
  | _ :: _, [], h => by simp at h
  | (g, x) :: fs, (g', y) :: gs, h => by
    simp only [List.map_cons, List.cons.injEq] at h
    obtain ⟨rfl, h⟩ := h
    unfold putG
    by_cases e : g = f
    · rw [if_pos e, if_pos e]; simp [h]
    · rw [if_neg e, if_neg e]; simp [putG_names f v w h]
theorem putG_same {α : Type} {f : Str} {v : α} : ∀ {fs : List (Str × α)}, fs.lookup f = some v → putG f v fs = fs
  | [], h => by cases h
  | (g, x) :: fs, h => by
    unfold putG
    by_cases e : g = f
    · subst e
      rw [List.lookup_cons, beq_self_eq_true] at h
      cases h
      rw [if_pos rfl]
    · rw [if_neg e]
      rw [List.lookup_cons, show (f == g) = false by simpa using Ne.symm e] at h
      rw [putG_same h]
section
variable {K : PySem.W.Frag} {F H : Hp}
/-- a field of a row of owned things: itself, the rest, and what stands when it is another one -/
theorem OwnL.fld {f : Str} {m : M} : ∀ {fs : List (Str × V)} {fms : List (Str × M)} {fq : List Addr}, fs.map (·.1) = fms.map (·.1) → OwnL K F H (fs.map (·.2)) (fms.map (·.2)) fq → fms.lookup f = some m →
    ∃ v l r, fs.lookup f = some v ∧ Own K F H v m l ∧ fq.Perm (l ++ r) ∧ ∀ F' H' v' m' l', Sub F F' → (∀ a ∈ r, ∀ o, H a = some o → H' a = some o) → Own K F' H' v' m' l' → ∃ fq', fq'.Perm (l' ++ r) ∧ OwnL K F' H' ((putG f v' fs).map (·.2)) ((putG f m' fms).map (·.2)) fq'
  | [], [], _, _, _, h => by cases h
  | [], _ :: _, _, h, _, _ => by simp at h
  | _ :: _, [], _, h, _, _ => by simp at h
  | (g, x) :: fs, (g', y) :: fms, fq, hn, ho, hl => by
    simp only [List.map_cons, List.cons.injEq] at hn
    obtain ⟨rfl, hn⟩ := hn
    simp only [List.map_cons] at ho
    cases ho with
    | cons o t =>
      rename_i fp fr
      by_cases e : g = f
      · subst e
        rw [List.lookup_cons, beq_self_eq_true] at hl
        cases hl
        refine ⟨x, fp, fr, by rw [List.lookup_cons, beq_self_eq_true], o, List.Perm.refl _, fun F' H' v' m' l' s k o' => ?_⟩
        refine ⟨l' ++ fr, List.Perm.refl _, ?_⟩
        unfold putG
        rw [if_pos rfl, if_pos rfl]
        exact .cons o' (t.mono s k)
      · have e' : (f == g) = false := by simpa using Ne.symm e
        rw [List.lookup_cons, e'] at hl
        obtain ⟨v, l, r, h1, h2, h3, h4⟩ := OwnL.fld hn t hl
        refine ⟨v, l, fp ++ r, by rw [List.lookup_cons, e']; exact h1, h2, ?_, fun F' H' v' m' l' s k o' => ?_⟩
        · refine (List.Perm.append_left fp h3).trans ?_
          rw [← List.append_assoc, ← List.append_assoc]
          exact List.Perm.append_right r List.perm_append_comm
        · obtain ⟨fq', p', t'⟩ := h4 F' H' v' m' l' s (fun a ha => k a (List.mem_append_right _ ha)) o'
          refine ⟨fp ++ fq', ?_, ?_⟩
          · refine (List.Perm.append_left fp p').trans ?_
            rw [← List.append_assoc, ← List.append_assoc]
            exact List.Perm.append_right r List.perm_append_comm
          · unfold putG
            rw [if_neg e, if_neg e]
            exact .cons (o.mono s fun a ha => k a (List.mem_append_left _ ha)) t'
/-- what stands at the end of a way -/
theorem Own.focus : ∀ {π : Way} {v : V} {m m' : M} {fp : List Addr}, Own K F H v m fp → getP π m = some m' →
    ∃ v' l r, PathV K H π v v' ∧ Own K F H v' m' l ∧ fp.Perm (l ++ r) ∧ ∀ F' H' m'' l'', Sub F F' → (∀ a ∈ r, ∀ o, H a = some o → H' a = some o) → Own K F' H' v' m'' l'' → ∃ fp', fp'.Perm (l'' ++ r) ∧ Own K F' H' v (setP π m m'') fp'
  | [], v, m, m', fp, o, h => by
    cases h
    exact ⟨v, fp, [], rfl, o, by simp, fun F' H' m'' l'' s k o' => ⟨l'', by simp, o'⟩⟩
  | (D, f) :: π, v, m, m', fp, o, h => by
    cases o with
    | im r => cases h
    | gone => cases h
    | tp _ _ => cases h
    | fz _ _ _ _ => cases h
    | xc _ _ _ => cases h
    | lm _ => cases h
    | kt _ _ => cases h
    | ls _ _ => cases h
    | dt _ _ _ => cases h
    | dk ha e r =>
      rename_i a kvs kms fq
      simp only [getP] at h
      split at h
      rotate_left
      · cases h
      rename_i hD
      obtain ⟨m1, h1, h2⟩ := Option.bind_eq_some_iff.mp h
      obtain ⟨v1, l1, r1, g1, g2, g3, g4⟩ := OwnL.key e r h1
      obtain ⟨v', l, r0, p1, p2, p3, p4⟩ := Own.focus g2 h2
      refine ⟨v', l, a :: (r0 ++ r1), .inr ⟨hD, a, kvs, v1, rfl, ha, g1, p1⟩, p2, ?_, fun F' H' m'' l'' s k o' => ?_⟩
      · refine (List.Perm.cons a (g3.trans ((List.Perm.append_right r1 p3).trans (by rw [List.append_assoc])))).trans ?_
        exact (List.perm_middle).symm
      · obtain ⟨l1', q1, q2⟩ := p4 F' H' m'' l'' s (fun b hb => k b (List.mem_cons_of_mem _ (List.mem_append_left _ hb))) o'
        obtain ⟨fq', q3, q4⟩ := g4 F' H' (setP π m1 m'') l1' s (fun b hb => k b (List.mem_cons_of_mem _ (List.mem_append_right _ hb))) q2
        refine ⟨a :: fq', ?_, ?_⟩
        · refine (List.Perm.cons a (q3.trans ((List.Perm.append_right r1 q1).trans (by rw [List.append_assoc])))).trans ?_
          exact (List.perm_middle).symm
        · simp only [setP, h1]
          exact .dk (k a List.mem_cons_self _ ha) (by rw [updK_names]; exact e) q4
    | ob hC ha e r =>
      rename_i a ca dx C fs fms fq
      simp only [getP] at h
      split at h
      rotate_left
      · cases h
      rename_i hCD
      obtain ⟨hCD, hne⟩ := hCD
      subst hCD
      obtain ⟨m1, h1, h2⟩ := Option.bind_eq_some_iff.mp h
      obtain ⟨v1, l1, r1, g1, g2, g3, g4⟩ := OwnL.fld e r h1
      obtain ⟨v', l, r0, p1, p2, p3, p4⟩ := Own.focus g2 h2
      refine ⟨v', l, a :: (r0 ++ r1), .inl ⟨hne, a, ca, dx, fs, v1, rfl, hC, ha, g1, p1⟩, p2, ?_, fun F' H' m'' l'' s k o' => ?_⟩
      · refine (List.Perm.cons a (g3.trans ((List.Perm.append_right r1 p3).trans (by rw [List.append_assoc])))).trans ?_
        exact (List.perm_middle).symm
      · obtain ⟨l1', q1, q2⟩ := p4 F' H' m'' l'' s (fun b hb => k b (List.mem_cons_of_mem _ (List.mem_append_left _ hb))) o'
        obtain ⟨fq', q3, q4⟩ := g4 F' H' v1 (setP π m1 m'') l1' s (fun b hb => k b (List.mem_cons_of_mem _ (List.mem_append_right _ hb))) q2
        refine ⟨a :: fq', ?_, ?_⟩
        · refine (List.Perm.cons a (q3.trans ((List.Perm.append_right r1 q1).trans (by rw [List.append_assoc])))).trans ?_
          exact (List.perm_middle).symm
        · simp only [setP, h1]
          rw [putG_same g1] at q4
          refine .ob hC (k a List.mem_cons_self _ ha) ?_ q4
          rw [← putG_same g1]
          exact putG_names f v1 _ e
end
section
variable {K : PySem.W.Frag} {bv : Nat → Option V} {e : Env} {σ : L2.St} {F H : Hp} {fp : Nat → List Addr}
/-- what stands at a place, and what stands when it is another thing there -/
theorem SS.focus {i : Nat} {π : Way} {m m' : M} (S : SS K bv e σ F H fp) (he : e[i]? = some (some m)) (hg : getP π m = some m') :
    ∃ v v' l r, σ[i]? = some (some v) ∧ PathV K H π v v' ∧ Own K F H v' m' l ∧ (fp i).Perm (l ++ r) ∧ ∀ F' H' m'' l'', Sub F F' → Sub F' H' → LamX.Tabs TabT.tabs H' → (∀ a ∈ r, ∀ o, H a = some o → H' a = some o) → (∀ a ∈ r, F' a = none) →
      (∀ j, j ≠ i → ∀ a ∈ fp j, ∀ o, H a = some o → H' a = some o) → (∀ j, j ≠ i → ∀ a ∈ fp j, F' a = none) → Own K F' H' v' m'' l'' → l''.Nodup → (∀ a ∈ l'', F' a = none) → (∀ a ∈ l'', a ∉ r) → (∀ j, j ≠ i → ∀ a ∈ fp j, a ∉ l'') →
      ∃ fp', fp'.Perm (l'' ++ r) ∧ SS K bv (e.set i (some (setP π m m''))) σ F' H' (FD.put fp i fp') := by
  obtain ⟨v, hv, o⟩ := S.own i m he
  obtain ⟨v', l, r, h1, h2, h3, h4⟩ := o.focus hg
  refine ⟨v, v', l, r, hv, h1, h2, h3, fun F' H' m'' l'' s sub tb kr fr kj fj o' nd fl dr dj => ?_⟩
  obtain ⟨fp', p, o2⟩ := h4 F' H' m'' l'' s kr o'
  have ndr : r.Nodup := by
    have := h3.nodup_iff.mp (S.nd i)
    exact (List.nodup_append.mp this).2.1
  have rin : ∀ a ∈ r, a ∈ fp i := fun a ha => h3.mem_iff.mpr (List.mem_append_right _ ha)
  refine ⟨fp', p, S.put s sub (List.getElem?_eq_some_iff.mp he).1 hv (fun _ _ => rfl) rfl (fun u hu => ?_) o2 ?_ ?_ ?_ kj fj tb⟩
  · have q := S.bor i u hu
    rw [hv] at q
    cases q
    rfl
  · refine p.nodup_iff.mpr (List.nodup_append.mpr ⟨nd, ndr, fun a ha b hb z => ?_⟩)
    subst z
    exact dr a ha hb
  · intro a ha
    rcases List.mem_append.mp (p.mem_iff.mp ha) with z | z
    · exact fl a z
    · exact fr a z
  · intro j n a ha z
    rcases List.mem_append.mp (p.mem_iff.mp z) with z | z
    · exact dj j n a ha z
    · exact n (S.dj j i a ha (rin a z))
end
end FD
/-! FD: places: a slot, a way into it; read, peeked at, changed. -/
namespace FD
variable [TabT]
open PySem L2
/-- what stands at a place -/
def pgM (i : Nat) (π : Way) (e : Env) : Option M := match e[i]? with
  | some (some m) => getP π m
  | _ => none
def psM (i : Nat) (π : Way) (n : M) (e : Env) : Env := match e[i]? with
  | some (some m) => e.set i (some (setP π m n))
  | _ => e
theorem pgM_some {i : Nat} {π : Way} {e : Env} {m' : M} (h : pgM i π e = some m') : ∃ m, e[i]? = some (some m) ∧ getP π m = some m' := by
  unfold pgM at h
  split at h
  · rename_i m he; exact ⟨m, he, h⟩
  · cases h
theorem psM_eq {i : Nat} {π : Way} {e : Env} {m n : M} (h : e[i]? = some (some m)) : psM i π n e = e.set i (some (setP π m n)) := by
  unfold psM; rw [h]
/-- the object at a class's address has no such attribute by its class -/
def Att (K : PySem.W.Frag) (C f : Str) : Prop := ∀ ca, PySem.W.nsIn K mainGlobals C = some (some (.ref ca)) → Cls K ca ∧ NoAttr K ca f
theorem PathV.snoc {K : PySem.W.Frag} {H : Hp} {C f : Str} : ∀ {π : Way} {v v' : V}, PathV K H (π ++ [(C, f)]) v v' → ∃ u, PathV K H π v u ∧ PathV K H [(C, f)] u v'
  | [], v, v', h => ⟨v, rfl, h⟩
  | (D, g) :: π, v, v', h => by
    rcases h with ⟨h0, a, ca, dx, fs, u, h1, h2, h3, h4, h5⟩ | ⟨h0, a, kvs, u, h1, h3, h4, h5⟩
    · obtain ⟨w, k1, k2⟩ := PathV.snoc h5
      exact ⟨w, .inl ⟨h0, a, ca, dx, fs, u, h1, h2, h3, h4, k1⟩, k2⟩
    · obtain ⟨w, k1, k2⟩ := PathV.snoc h5
      exact ⟨w, .inr ⟨h0, a, kvs, u, h1, h3, h4, k1⟩, k2⟩
section
variable {K : PySem.W.Frag} {W : WX} {bv : Nat → Option V} {e : Env} {σ : L2.St} {F H : Hp} {fp : Nat → List Addr} {i : Nat} {π : Way}
/-- what stands at a place, in the heap -/
theorem SS.at {m' : M} (S : SS K bv e σ F H fp) (h : pgM i π e = some m') : ∃ v v' l, σ[i]? = some (some v) ∧ PathV K H π v v' ∧ Own K F H v' m' l ∧ (∀ a ∈ l, a ∈ fp i) ∧ l.Nodup := by
  obtain ⟨m, he, hg⟩ := pgM_some h
  obtain ⟨v, v', l, r, h1, h2, h3, h4, _⟩ := S.focus he hg
  exact ⟨v, v', l, h1, h2, h3, fun a ha => h4.mem_iff.mpr (List.mem_append_left _ ha), (List.nodup_append.mp (h4.nodup_iff.mp (S.nd i))).1⟩
end
/-! ### read -/
def varP (i : Nat) (π : Way) : EM D := fun e => match pgM i π e with
  | some (.im d) => .ok d e
  | some m => match m.toD with
    | some d => .ok d (psM i π (.im d) e)
    | none => .no
  | none => .no
end FD
/-! FD: quiet expressions: they change nothing that is owned. -/
namespace FD
variable [TabT]
open PySem L2
def noP : Addr → Prop := fun _ => False
def tQ {τ α : Type} (K : PySem.W.Frag) (bv : Nat → Option V) (r : Hp → τ → α → Prop) (g : Env → Option α) : L2.St → Hp → (τ → Hp → Prop) → Prop := fun σ H Q => ∃ e F fp, SS K bv e σ F H fp ∧ ∃ d, g e = some d ∧ ∀ v F' H', Stp F H noP F' H' noP → SS K bv e σ F' H' fp → r F' v d → Q v H'
def qE {α : Type} (g : Env → Option α) : EM α := fun e => match g e with
  | some d => .ok d e
  | none => .no
section
variable {X : Cx} {W : WX} {bv : Nat → Option V} {pos p px : Pos} {a b o : Expr} {es : List Expr} {ga gb gc : Env → Option D} {gs : Env → Option (List D)} {x : Str} {i : Nat} {π : Way}
theorem tQ.mono {τ α : Type} {K : PySem.W.Frag} {r : Hp → τ → α → Prop} {g : Env → Option α} {σ : L2.St} {H : Hp} {Q Q' : τ → Hp → Prop} (h : tQ K bv r g σ H Q) (w : ∀ v H', Q v H' → Q' v H') : tQ K bv r g σ H Q' := by
  obtain ⟨e, F, fp, S, d, hd, q⟩ := h
  exact ⟨e, F, fp, S, d, hd, fun v F' H' s S' r => w v H' (q v F' H' s S' r)⟩
/-! rules -/
/-- data at a place -/
def qP (i : Nat) (π : Way) : Env → Option D := fun e => match pgM i π e with
  | some (.im d) => some d
  | _ => none
def qB (g : D → D → Option D) (ga gb : Env → Option D) : Env → Option D := fun e => (ga e).bind fun x => (gb e).bind fun y => g x y
/-- an operation asked where nothing is owned -/
theorem SS.bare {K : PySem.W.Frag} {F H : Hp} (s : Sub F H) (t : LamX.Tabs TabT.tabs H) : SS K (fun _ => none) [] [] F H (fun _ => []) :=
  ⟨s, (fun i m h => by simp at h), (fun i a h => by cases h), (fun _ => List.nodup_nil), (fun _ _ _ h => by cases h), (fun _ _ h => by cases h), (fun _ _ h => by cases h), rfl, t⟩
def qC (ga : Env → Option D) (gs : Env → Option (List D)) : Env → Option (List D) := fun e => (ga e).bind fun x => (gs e).map (x :: ·)
def qR (g : List D → Option D) (gs : Env → Option (List D)) : Env → Option D := fun e => (gs e).bind g
end
end FD
/-! FD: what is done at places. -/
namespace FD
variable [TabT]
open PySem L2
def opP {α : Type} (i : Nat) (π : Way) (g : Env → Option D) (k : M → D → Option α) : EM α := fun e => match pgM i π e with
  | some m => match g e with
    | some y => match k m y with
      | some d => .ok d e
      | none => .no
    | none => .no
  | none => .no
section
variable {X : Cx} {W : WX} {bv : Nat → Option V} {pos p px apos : Pos} {a b o : Expr} {es : List Expr} {fa : EM D} {ga gb gc : Env → Option D} {gs : Env → Option (List D)} {x : Str} {i : Nat} {π : Way}
/-- the data of what stands at a place, known for now -/
theorem Own.seen {K : PySem.W.Frag} {F H : Hp} {v : V} {m : M} {d : D} {l : List Addr} (o : Own K F H v m l) (s : Sub F H) (fr : ∀ a ∈ l, F a = none) (hd : m.toD = some d) : ∃ G, Rp K G v d ∧ Sub F G ∧ Sub G H := ⟨ov H F l, o.frozen fr hd, Sub.ov fr, s.of_ov⟩
/-- e in xs: the place is asked behind e -/
def opR {α : Type} (i : Nat) (π : Way) (f : EM D) (k : D → D → Option α) : EM α := bnd f fun y e => match (pgM i π e).bind M.toD with
  | some d => lif (k y d) e
  | none => .no
/-- len(xs) -/
def pk0 {α : Type} (i : Nat) (π : Way) (k : M → Option α) : EM α := fun e => match pgM i π e with
  | some m => lif (k m) e
  | none => .no
end
end FD
/-! FD: what is changed at places. -/
namespace FD
variable [TabT]
open PySem L2
/-- a change of what stands at a place, by quiet data -/
def chP (i : Nat) (π : Way) (g : Env → Option D) (k : M → D → Option M) : EM Flow := fun e => match pgM i π e with
  | some m => match g e with
    | some y => match k m y with
      | some n => .ok .nxt (psM i π n e)
      | none => .no
    | none => .no
  | none => .no
end FD
/-! FD: methods: the receiver is lent. -/
namespace FD
variable [TabT]
open PySem L2
/-! ### a call that lends a place, the other arguments data -/
section
variable {K : PySem.W.Frag} {W : WX} {bv : Nat → Option V} {e : Env} {σ : L2.St} {F H : Hp} {fp : Nat → List Addr} {i : Nat} {π : Way}
def lendF (Fs : List M → FOut) (i : Nat) (π : Way) (m : M) (ds : List D) : EM M := fun e => match Fs (m :: ds.map .im) with
  | .ok r (m' :: ms) => if ms.length = ds.length then .ok r (psM i π m' e) else .no
  | _ => .no
def fp1 (l : List Addr) : Nat → List Addr := fun j => if j = 0 then l else []
end
/-! ### the rules -/
def isOb (C m : Str) (n : M) : Bool := match n with
  | .ob C' fs => decide (C' = C) && (fs.lookup m).isNone
  | _ => false
/-- .. at any place, by quiet arguments -/
def methP (i : Nat) (π : Way) (C m : Str) (Fs : List M → FOut) (gs : Env → Option (List D)) : EM M := fun e => match pgM i π e with
  | some n => if isOb C m n then (match gs e with
    | some ds => lendF Fs i π n ds e
    | none => .no) else .no
  | none => .no
end FD
/-! FD: things handed over; objects made; fields stored. -/
namespace FD
variable [TabT]
open PySem L2
section
variable {K : PySem.W.Frag} {F H : Hp}
/-- owned things as arguments -/
theorem OwnL.ss : ∀ {vs : List V} {ms : List M} {fq : List Addr}, OwnL K F H vs ms fq → fq.Nodup → (∀ a ∈ fq, F a = none) → Sub F H → LamX.Tabs TabT.tabs H → ∃ fps, SS K bv0 (ms.map some) (vs.map some) F H fps ∧ ∀ a, Pf fps a ↔ a ∈ fq
  | _, _, _, .nil, _, _, s, tb => ⟨fun _ => [], ⟨s, (fun i m h => by simp at h), (fun i a h => by cases h), (fun _ => List.nodup_nil), (fun _ _ _ h => by cases h), (fun _ _ h => by cases h), (fun _ _ h => by cases h), rfl, tb⟩, fun a => ⟨(fun ⟨_, h⟩ => by cases h), (fun h => by cases h)⟩⟩
  | _, _, _, .cons (fp := l) (fq := r) o t, nd, fr, s, tb => by
    obtain ⟨n1, n2, n3⟩ := List.nodup_append.mp nd
    obtain ⟨fps, S, hP⟩ := OwnL.ss t n2 (fun a ha => fr a (List.mem_append_right _ ha)) s tb
    let g : Nat → List Addr := fun j => match j with | 0 => l | j + 1 => fps j
    refine ⟨g, ⟨s, fun j m h => ?_, fun j a h => ?_, fun j => ?_, fun j k a h1 h2 => ?_, fun j a h => ?_, (fun _ _ h => by cases h), by have := S.len; simp at this ⊢; exact this, tb⟩, fun a => ⟨fun ⟨j, h⟩ => ?_, fun h => ?_⟩⟩
    · cases j with
      | zero => simp at h; subst h; exact ⟨_, rfl, o⟩
      | succ j =>
        obtain ⟨v, h1, h2⟩ := S.own j m (by simpa using h)
        exact ⟨v, by simpa using h1, h2⟩
    · cases j with
      | zero => exact ⟨_, rfl⟩
      | succ j =>
        obtain ⟨m, h1⟩ := S.nil j a h
        exact ⟨m, by simpa using h1⟩
    · cases j with
      | zero => exact n1
      | succ j => exact S.nd j
    · cases j with
      | zero =>
        cases k with
        | zero => rfl
        | succ k => exact absurd rfl (n3 a h1 a ((hP a).mp ⟨k, h2⟩))
      | succ j =>
        cases k with
        | zero => exact absurd rfl (n3 a h2 a ((hP a).mp ⟨j, h1⟩))
        | succ k => rw [S.dj j k a h1 h2]
    · cases j with
      | zero => exact fr a (List.mem_append_left _ h)
      | succ j => exact S.fr j a h
    · cases j with
      | zero => exact List.mem_append_left _ h
      | succ j => exact List.mem_append_right _ ((hP a).mp ⟨j, h⟩)
    · rcases List.mem_append.mp h with h | h
      · exact ⟨0, h⟩
      · obtain ⟨j, hj⟩ := (hP a).mpr h
        exact ⟨j + 1, hj⟩
end
section
variable {K : PySem.W.Frag} {W : WX} {bv : Nat → Option V} {e : Env} {σ : L2.St} {F H : Hp} {fp : Nat → List Addr}
/-- the slots, behind a call to which other things were handed over -/
theorem SS.past {F' H' : Hp} {P0 P' : Addr → Prop} (S : SS K bv e σ F H fp) (s : Stp F H P0 F' H' P') (off : ∀ a, Pf fp a → ¬ P0 a) (sub : Sub F' H') (tb : LamX.Tabs TabT.tabs H') : SS K bv e σ F' H' fp ∧ ∀ a, Pf fp a → ¬ P' a := by
  refine ⟨S.heap s.ext sub (fun i a o h q => s.keep a o q (off a ⟨i, h⟩) (.inl (S.fr i a h)) (S.nx h q).1) (fun i a h => ?_) tb, fun a ⟨i, h⟩ z => ?_⟩
  · cases q : F' a with
    | none => rfl
    | some o =>
      rcases s.newF a (by rw [q]; simp) with z | z | z
      · exact absurd (S.fr i a h) z
      · exact absurd z (off a ⟨i, h⟩)
      · obtain ⟨o', q'⟩ := S.live h
        obtain ⟨vs, e1⟩ := z _ q'
        rw [e1] at q'
        exact absurd q' (S.ntup h vs)
  · rcases s.newP a z with y | y
    · exact off a ⟨i, h⟩ y
    · obtain ⟨o', q'⟩ := S.live h
      rw [q'] at y; cases y
def giveF (Fs : List M → FOut) (ms : List M) : EM M := fun e => match Fs ms with
  | .ok r _ => .ok r e
  | _ => .no
/-- a new object: what __init__ makes of it -/
def mkF (Fs : List M → FOut) (C : Str) (ms : List M) : EM M := fun e => match Fs (.ob C [] :: ms) with
  | .ok (.im .none) (o :: _) => .ok o e
  | _ => .no
theorem mk_at {Fs : List M → FOut} {vs : List V} {ms : List M} {fq : List Addr} {F0 H0 : Hp} {fp0 : Nat → List Addr} {Q : VK} {C : Str} {ca x dx : Addr} (S : SS K bv e σ F H fp) (s0 : Stp F0 H0 (Pf fp0) F H (fun a => Pf fp a ∨ a ∈ fq)) (o : OwnL K F H vs ms fq) (nd : fq.Nodup) (dj : ∀ a ∈ fq, ¬ Pf fp a) (fr : ∀ a ∈ fq, F a = none)
    (hC : PySem.W.nsIn K mainGlobals C = some (some (.ref ca))) (hx : H x = none) (hdx : H dx = none) (ne : dx ≠ x) (q : AtG K W bv (rM K) (mkF Fs C ms) e σ F0 H0 fp0 Q) : spF K Fs (.ref x :: vs) (upd (upd H dx (.own x)) x (.ins ca dx [])) (fun v H2 => v = .non ∧ Q (.ref x) H2) E0 := by
  have hx' : upd H dx (.own x) x = none := by rw [upd_ne ne.symm]; exact hx
  have kp : ∀ b u, H b = some u → upd (upd H dx (.own x)) x (.ins ca dx []) b = some u := fun b u h => by rw [upd_ne (ne_of_none h hx), upd_ne (ne_of_none h hdx)]; exact h
  have sub : Sub F (upd (upd H dx (.own x)) x (.ins ca dx [])) := (S.sub.mut (S.sub.non hdx)).mut (S.sub.non hx)
  have nx : x ∉ fq := fun z => by
    obtain ⟨u, hu⟩ := o.live x z
    rw [hx] at hu; cases hu
  have o1 : OwnL K F (upd (upd H dx (.own x)) x (.ins ca dx [])) (.ref x :: vs) (.ob C [] :: ms) ([x] ++ fq) := .cons (.ob (fs := []) (fms := []) (fp := []) hC upd_same rfl .nil) (o.mono (Sub.refl F) fun a _ u hu => kp a u hu)
  obtain ⟨fps, A, hP⟩ := o1.ss (List.nodup_append.mpr ⟨by simp, nd, fun a ha b hb z => by rw [List.mem_singleton] at ha; subst ha z; exact nx hb⟩) (fun a ha => by
    rcases List.mem_append.mp ha with h | h
    · rw [List.mem_singleton] at h; subst h; exact S.sub.non hx
    · exact fr a h) sub (tabs_new (tabs_new S.tab hdx) hx')
  refine ⟨_, F, fps, A, ?_⟩
  unfold AtG mkF at q
  cases hF : Fs (.ob C [] :: ms) with
  | no => rw [hF] at q; exact q.elim
  | ex C fs ms' => rw [hF] at q; exact q.elim
  | ok r ms' =>
    rw [hF] at q
    have key : r = .im .none ∧ ∃ ob ms2, ms' = ob :: ms2 := by
      cases r with
      | im d => cases d <;> first | exact q.elim | (cases ms' with
          | nil => exact q.elim
          | cons ob ms2 => exact ⟨rfl, ob, ms2, rfl⟩)
      | _ => exact q.elim
    obtain ⟨rfl, ob, ms2, rfl⟩ := key
    dsimp only at q ⊢
    intro v F' H' fp' P' s' S' ⟨fpr, hP', ow, ndr, djr, frr⟩
    have ev : v = .non := by cases ow with | im rr => cases rr; rfl
    refine ⟨ev, ?_⟩
    have S1 : SS K bv e σ F (upd (upd H dx (.own x)) x (.ins ca dx [])) fp := S.heap (Sub.refl F) sub (fun i a u h hu => kp a u hu) S.fr (tabs_new (tabs_new S.tab hdx) hx')
    have offx : ¬ Pf fp x := fun ⟨i, h⟩ => by
      obtain ⟨u, hu⟩ := S.live h
      rw [hx] at hu; cases hu
    have offq : ∀ a, Pf fp a → ¬ Pf fps a := fun a h z => by
      rcases List.mem_append.mp ((hP a).mp z) with y | y
      · rw [List.mem_singleton] at y; subst y; exact offx h
      · exact dj a y h
    obtain ⟨S2, off⟩ := S1.past s' offq S'.sub S'.tab
    obtain ⟨w, hw, o2⟩ := S'.own 0 ob rfl
    simp at hw
    subst hw
    have s1 : Stp F H (fun a => Pf fp a ∨ a ∈ fq) F' H' (fun a => Pf fp a ∨ a ∈ fp' 0) := by
      refine ⟨s'.ext, fun a u h n f t => s'.keep a u (kp a u h) (fun z => ?_) f t, fun a h => ?_, fun a ps h => s'.tbl a ps (kp a _ h), fun a h => ?_, fun a h => ?_⟩
      · rcases List.mem_append.mp ((hP a).mp z) with y | y
        · rw [List.mem_singleton] at y; subst y; rw [hx] at h; cases h
        · exact n (.inr y)
      · have := s'.live a h
        cases z : H a with
        | none => rfl
        | some u => rw [kp a u z] at this; cases this
      · rcases s'.newF a h with y | y | y
        · exact .inl y
        · rcases List.mem_append.mp ((hP a).mp y) with z | z
          · rw [List.mem_singleton] at z; subst z; exact .inr (.inr (nw_of hx))
          · exact .inr (.inl (.inr z))
        · exact .inr (.inr fun u hu => y u (kp a u hu))
      · rcases h with h | h
        · exact .inl (.inl h)
        · rcases s'.newP a (hP' a (.inl ⟨0, h⟩)) with y | y
          · rcases List.mem_append.mp ((hP a).mp y) with z | z
            · rw [List.mem_singleton] at z; subst z; exact .inr hx
            · exact .inl (.inr z)
          · refine .inr ?_
            cases z : H a with
            | none => rfl
            | some u => rw [kp a u z] at y; cases y
    exact q (.ref x) F' H' fp _ (s0.trans s1) S2 ⟨fp' 0, rfl, o2, S'.nd 0, fun a ha z => off a z (hP' a (.inl ⟨0, ha⟩)), fun a ha => S'.fr 0 a ha⟩
end
section
variable {X : Cx} {W : WX} {bv : Nat → Option V} {pos p px apos : Pos} {a b o : Expr} {es : List Expr} {fa : EM D} {fm : EM M} {fv : EM (List M)} {ga : Env → Option D} {gs : Env → Option (List D)} {x C m : Str} {i k : Nat} {π : Way} {ps : List Str} {Fs : List M → FOut}
/-! ### arguments -/
def vN : EM (List M) := ret []
def vD (f : EM D) (fv : EM (List M)) : EM (List M) := bnd f fun d => bnd fv fun ms => ret (.im d :: ms)
def vM (f : EM M) (gs : Env → Option (List D)) : EM (List M) := bnd f fun m => bnd (qE gs) fun ds => ret (m :: ds.map .im)
def callV (Fs : List M → FOut) (fv : EM (List M)) : EM M := bnd fv fun ms => giveF Fs ms
/-! ### C(..) -/
end
section
variable {X : Cx} {W : WX} {bv : Nat → Option V} {pos p px apos : Pos} {a b o : Expr} {es : List Expr} {fa : EM D} {fm : EM M} {fv : EM (List M)} {ga : Env → Option D} {gs : Env → Option (List D)} {x C m : Str} {i k : Nat} {π : Way} {ps : List Str} {Fs : List M → FOut}
def makeV (Fs : List M → FOut) (C : Str) (fv : EM (List M)) : EM M := bnd fv fun ms => mkF Fs C ms
end
end FD
/-! FD: fields stored; things moved out of slots; stores, pops at places. -/
namespace FD
variable [TabT]
open PySem L2
def fldK (C f : Str) (n : M) (m : M) : Option M := match m with
  | .ob C' fms => if C' = C ∧ fms.length < 1000 then some (.ob C' (putG f n fms)) else none
  | _ => none
def fldS (i : Nat) (π : Way) (C f : Str) (fm : EM M) : EM Flow := bnd fm fun n e => match (pgM i π e).bind (fldK C f n) with
  | some m => .ok .nxt (psM i π m e)
  | none => .no
section
variable {X : Cx} {W : WX} {bv : Nat → Option V} {pos p px apos tpos : Pos} {a b o : Expr} {es : List Expr} {fa : EM D} {fm : EM M} {fv : EM (List M)} {ga gb : Env → Option D} {gs : Env → Option (List D)} {x C f m : Str} {i k : Nat} {π : Way} {ps : List Str} {Fs : List M → FOut}
/-! ### a thing moved out of a slot -/
def mvM (i : Nat) : EM M := fun e => match e[i]? with
  | some (some m) => .ok m (e.set i (some .gone))
  | _ => .no
/-! ### xs[k] = v at a place -/
def stoK (d : D) (m : M) (k : D) : Option M := match m with
  | .ls ms => match k with
    | .int k => match ixN ms.length k with
      | some j => match ms[j]? with
        | some (.im _) => some (.ls (ms.set j (.im d)))
        | _ => none
      | none => none
    | _ => none
  | .dk kms => match kOf k with
    | some k => if few (kms.length + 1) && imK kms k then some (.dk (putKK kms k (.im d))) else none
    | none => none
  | .dt kms => match ksOf k with
    | some k => if few (kms.length + 1) && imK kms k then some (.dt (putKK kms k (.im d))) else none
    | none => none
  | _ => none
def stoP (i : Nat) (π : Way) (gk : Env → Option D) (fv : EM D) : EM Flow := bnd fv fun d => chP i π gk (stoK d)
end
end FD
/-! FD: a list of things to own, walked: each is moved into the loop's name. -/
namespace FD
variable [TabT]
open PySem L2
/-- what nobody in sight owns stays -/
theorem Stp.off {F H F' H' : Hp} {P P' : Addr → Prop} (s : Stp F H P F' H' P') {a : Addr} {o : HO} (h : H a = some o) (n : ¬ P a) (f : F a = none) (t : ∀ vs, o ≠ fxO vs) (t2 : Nt o := by first | exact nt_lst _ | exact fun _ z => by cases z) : H' a = some o ∧ F' a = none ∧ ¬ P' a := by
  refine ⟨s.keep a o h n (.inl f) t2, ?_, fun z => (s.newP a z).elim n fun q => by rw [h] at q; cases q⟩
  cases e : F' a with
  | none => rfl
  | some o' =>
    rcases s.newF a (by rw [e]; intro z; cases z) with z | z | z
    · exact absurd f z
    · exact absurd z n
    · obtain ⟨vs, q⟩ := z o h
      exact absurd q (t vs)
def loopM (i : Nat) (g : EM Flow) : List M → EM Flow
  | [] => ret .nxt
  | m :: ms => fun e => if i < e.length then match g (e.set i (some m)) with
      | .ok .nxt e' => loopM i g ms e'
      | .ok .cnt e' => loopM i g ms e'
      | .ok .brk e' => .ok .nxt e'
      | .ok (.ret m) e' => .ok (.ret m) e'
      | .ex C fs e' => .ex C fs e'
      | .no => .no
    else .no
def forM (i : Nat) (f : EM M) (g : EM Flow) : EM Flow := bnd f fun m => match m with
  | .ls ms => loopM i g ms
  | _ => fun _ => .no
end FD
/-! FD: what stands at a place is changed and takes other things in. -/
namespace FD
variable [TabT]
open PySem L2
section
variable {K : PySem.W.Frag} {bv : Nat → Option V} {e : Env} {σ : L2.St} {F H : Hp} {fp : Nat → List Addr} {i : Nat} {π : Way}
theorem SS.take {m' : M} {fpr : List Addr} (S : SS K bv e σ F H fp) (h : pgM i π e = some m') (dj : ∀ a ∈ fpr, ¬ Pf fp a) (fr : ∀ a ∈ fpr, F a = none) :
    ∃ v v' l, σ[i]? = some (some v) ∧ PathV K H π v v' ∧ Own K F H v' m' l ∧ (∀ a ∈ l, a ∈ fp i) ∧ l.Nodup ∧ ∀ H' n l'', (∀ b u, H b = some u → b ∉ l → H' b = some u) → (∀ b, H' b = none → H b = none) → Sub F H' →
      (∀ b ∈ l'', b ∈ l ∨ b ∈ fpr ∨ H b = none) → l''.Nodup → Own K F H' v' n l'' → ∃ fp', SS K bv (psM i π n e) σ F H' fp' ∧ Stp F H (fun b => Pf fp b ∨ b ∈ fpr) F H' (Pf fp') := by
  obtain ⟨m, he, hg⟩ := pgM_some h
  obtain ⟨v, v', l, r, h1, h2, h3, h4, h5⟩ := S.focus he hg
  have lin : ∀ a ∈ l, a ∈ fp i := fun a ha => h4.mem_iff.mpr (List.mem_append_left _ ha)
  have rin : ∀ a ∈ r, a ∈ fp i := fun a ha => h4.mem_iff.mpr (List.mem_append_right _ ha)
  have ndl : (l ++ r).Nodup := h4.nodup_iff.mp (S.nd i)
  have lr : ∀ a ∈ l, a ∉ r := fun a hl ha => (List.nodup_append.mp ndl).2.2 a hl a ha rfl
  refine ⟨v, v', l, h1, h2, h3, lin, (List.nodup_append.mp ndl).1, fun H' n l'' kp lv sub inl nd'' o'' => ?_⟩
  have live : ∀ j b, b ∈ fp j → H b ≠ none := fun j b hb z => by
    obtain ⟨u, hu⟩ := S.live hb
    rw [z] at hu; cases hu
  obtain ⟨fp', p, S'⟩ := h5 F H' n l'' (Sub.refl F) sub (S.tabK fun b u hb nb => kp b u hb fun z => nb ⟨i, lin b z⟩) (fun b hb u hu => kp b u hu fun z => lr b z hb) (fun b hb => S.fr i b (rin b hb))
    (fun j nj b hb u hu => kp b u hu fun z => nj (S.dj j i b hb (lin b z))) (fun j _ b hb => S.fr j b hb) o'' nd''
    (fun b hb => by
      rcases inl b hb with z | z | z
      · exact S.fr i b (lin b z)
      · exact fr b z
      · exact S.sub.non z)
    (fun b hb z => by
      rcases inl b hb with y | y | y
      · exact lr b y z
      · exact dj b y ⟨i, rin b z⟩
      · exact live i b (rin b z) y)
    (fun j nj b hb z => by
      rcases inl b z with y | y | y
      · exact nj (S.dj j i b hb (lin b y))
      · exact dj b y ⟨j, hb⟩
      · exact live j b hb y)
  refine ⟨FD.put fp i fp', by rw [psM_eq he]; exact S', Sub.refl F, fun b u hb nb _ _ => kp b u hb fun z => nb (.inl ⟨i, lin b z⟩), lv, fun b ps hb => ⟨ps, kp b _ hb fun z => (S.nx (lin b z) hb).1 ps rfl⟩, fun b hb => .inl hb, fun b ⟨j, hj⟩ => ?_⟩
  by_cases nj : j = i
  · subst nj
    rw [put_same] at hj
    rcases List.mem_append.mp (p.mem_iff.mp hj) with z | z
    · rcases inl b z with y | y | y
      · exact .inl (.inl ⟨j, lin b y⟩)
      · exact .inl (.inr y)
      · exact .inr y
    · exact .inl (.inl ⟨j, rin b z⟩)
  · rw [put_ne nj] at hj
    exact .inl (.inl ⟨j, hj⟩)
end
/-! ### xs.append(a thing to own) -/
def appO (i : Nat) (m : M) : EM Flow := fun e => match e[i]? with
  | some (some (.ls ms)) => if few (ms.length + 1) then .ok .nxt (e.set i (some (.ls (ms ++ [m])))) else .no
  | _ => .no
def appOS (i : Nat) (f : EM M) : EM Flow := fun e => if isLs i e then bnd f (fun m => appO i m) e else .no
end FD
/-! FD: min(xs, default=None). -/
namespace FD
open PySem L2
end FD
/-! FD: place.setdefault(k, []).append(v). -/
namespace FD
variable [TabT]
open PySem L2
theorem Stp.fresh {F H : Hp} {p : Addr} {o : HO} (hp : H p = none) : Stp F H noP F (upd H p o) noP :=
  ⟨Sub.refl F, fun a u h _ _ _ => by rw [upd_ne (ne_of_none h hp)]; exact h, fun a h => by
    by_cases e : a = p
    · subst e; exact hp
    · rw [upd_ne e] at h; exact h, tbl_new hp, fun a h => .inl h, fun a h => h.elim⟩
end FD
/-! FD: place.setdefault(k, []).append(v): the rule. -/
namespace FD
variable [TabT]
open PySem L2
theorem PathV.upd {K : PySem.W.Frag} {H : Hp} {a0 : Addr} {o : HO} (n : ∀ ca dx fs, H a0 ≠ some (.ins ca dx fs)) (n2 : ∀ kvs, H a0 = some (.dK kvs) → ∃ kvs', o = .dK kvs' ∧ ∀ k u, lookK kvs k = some u → lookK kvs' k = some u) : ∀ {π : Way} {v v' : V}, PathV K H π v v' → PathV K (L2.upd H a0 o) π v v'
  | [], _, _, h => h
  | (C, f) :: π, v, v', h => by
    rcases h with ⟨e0, a, ca, dx, fs, u, e1, e2, e3, e4, e5⟩ | ⟨e2, a, kvs, u, e1, e3, e4, e5⟩
    · refine .inl ⟨e0, a, ca, dx, fs, u, e1, e2, ?_, e4, PathV.upd n n2 e5⟩
      rw [upd_ne fun z => n ca dx fs (by rw [← z]; exact e3)]
      exact e3
    · by_cases z : a = a0
      · subst z
        obtain ⟨kvs', rfl, h2⟩ := n2 kvs e3
        exact .inr ⟨e2, a, kvs', u, e1, upd_same, h2 _ _ e4, PathV.upd n n2 e5⟩
      · exact .inr ⟨e2, a, kvs, u, e1, by rw [upd_ne z]; exact e3, e4, PathV.upd n n2 e5⟩
theorem Stp.nil {F H F' H' : Hp} {P P' : Addr → Prop} (s : Stp F H (fun b => P b ∨ b ∈ ([] : List Addr)) F' H' P') : Stp F H P F' H' P' :=
  ⟨s.ext, fun c u h n f t => s.keep c u h (fun z => n (z.elim id fun y => by cases y)) f t, s.live, s.tbl, fun c h => (s.newF c h).imp id (Or.imp (fun z => z.elim id fun y => by cases y) id), fun c h => (s.newP c h).imp (fun z => z.elim id fun y => by cases y) id⟩
end FD
/-! FD: two tests of a comprehension, join, temporaries. -/
namespace FD
variable [TabT]
open PySem L2
section
variable {X : Cx} {W : WX} {bv : Nat → Option V} {pos p apos : Pos} {a b o : Expr} {es : List Expr} {fa fb : EM D} {ta tb : EM Bool} {fm : EM M} {gs : Env → Option (List D)} {C f m : Str} {k : Nat} {ps : List Str} {Fs : List M → FOut}
/-! ### sep.join(xs) -/
/-! ### what an expression makes is data from now on -/
def frzM (f : EM M) : EM D := bnd f fun m => lif m.toD
/-! ### a field of what an expression makes -/
def fldT (C f : Str) (fm : EM M) : EM D := bnd fm fun m => lif (match m with
  | .ob C' fs => if C' = C then (fs.lookup f).bind M.toD else none
  | _ => none)
/-! ### a statement that is a call -/
def exprM (f : EM M) : EM Flow := bnd f fun _ => ret .nxt
/-! ### a method of what an expression makes -/
def methT (C m : Str) (Fs : List M → FOut) (fm : EM M) (gs : Env → Option (List D)) : EM M := bnd fm fun r => if isOb C m r then bnd (qE gs) fun ds => giveF Fs (r :: ds.map .im) else fun _ => .no
end
end FD
/-! FD: a dict of lists becomes data; dicts displayed. -/
namespace FD
variable [TabT]
open PySem L2
def toDs : List M → Option (List D)
  | [] => some []
  | m :: ms => m.toD.bind fun d => (toDs ms).map (d :: ·)
def M.deep : M → Option D
  | .dk kvs => (toDs (kvs.map (·.2))).map fun ds => .dict (((kvs.map (·.1)).zip ds).map fun p => (keyD p.1, p.2))
  | m => m.toD
section
variable {K : PySem.W.Frag} {F H : Hp}
theorem Sub.ovs {l' l : List Addr} (h : ∀ a ∈ l', a ∈ l) (fr : ∀ a ∈ l, F a = none) : Sub (FD.ov H F l') (FD.ov H F l) where
  rdN := fun a u _ r => by
    by_cases n : a ∈ l'
    · exact rd_at (by rw [ov_in n, ov_in (h a n)]) r
    · by_cases n2 : a ∈ l
      · exact absurd r fun z => rd_none ((ov_out n).trans (fr a n2)) z
      · exact rd_at (by rw [ov_out n, ov_out n2]) r
  ex := fun a u _ q => by
    by_cases n : a ∈ l'
    · rw [ov_in n] at q; rw [ov_in (h a n)]; exact q
    · by_cases n2 : a ∈ l
      · rw [ov_out n, fr a n2] at q; cases q
      · rw [ov_out n] at q; rw [ov_out n2]; exact q
  nn := fun a q => by
    by_cases n : a ∈ l'
    · rw [ov_in (h a n)] at q; rw [ov_in n]; exact q
    · rw [ov_out n]
      by_cases n2 : a ∈ l
      · exact fr a n2
      · rw [ov_out n2] at q; exact q
theorem OwnL.frozen {l : List Addr} (fr : ∀ a ∈ l, F a = none) : ∀ {vs : List V} {ms : List M} {ds : List D} {fq : List Addr}, OwnL K F H vs ms fq → (∀ a ∈ fq, a ∈ l) → toDs ms = some ds → RpL K (ov H F l) vs ds
  | _, _, _, _, .nil, _, h => by cases h; exact .nil
  | _, _, _, _, .cons o r, hin, h => by
    obtain ⟨d, h1, h2⟩ := Option.bind_eq_some_iff.mp h
    obtain ⟨ds, h3, rfl⟩ := Option.map_eq_some_iff.mp h2
    have i1 := fun a ha => hin a (List.mem_append_left _ ha)
    exact .cons ((o.frozen (fun a ha => fr a (i1 a ha)) h1).mono (Sub.ovs i1 fr)) (OwnL.frozen fr r (fun a ha => hin a (List.mem_append_right _ ha)) h3)
variable {W : WX} {bv : Nat → Option V} {e : Env} {σ : L2.St} {fp : Nat → List Addr} {i : Nat} {π : Way}
end
def varPd (i : Nat) (π : Way) : EM D := fun e => match pgM i π e with
  | some (.im d) => .ok d e
  | some m => match m.deep with
    | some d => .ok d (psM i π (.im d) e)
    | none => .no
  | none => .no
section
variable {X : Cx} {W : WX} {bv : Nat → Option V} {pos p : Pos} {a b o : Expr} {i : Nat} {π : Way} {fa : EM D} {fs : EM (List D)}
/-! ### {'a': x, ..} -/
def dispM (ks : List Str) (f : EM (List D)) : EM M := bnd f fun ds => if ds.length = ks.length ∧ ks.Nodup then ret (.dk ((ks.map Sum.inr).zip (ds.map .im))) else fun _ => .no
end
end FD
/-! FD: methods and classes of the text; quiet items. -/
namespace FD
variable [TabT]
open PySem L2
def tupQ : List D → Option D := fun ds => if few ds.length then some (.tuple ds) else none
end FD
/-! FD: enumerate over a text. -/
namespace FD
open PySem L2 PyProof.Rows
end FD
/-! FD: pairs of a dict walked; xs.pop(); sorted pairs; two things to own at once. -/
namespace FD
open PySem L2
end FD
/-! FD: for a, b in d.items(). -/
namespace FD
open PySem L2
/-! ### as data -/
end FD
/-! FD: {key: value} with a tuple as its key; xs.pop(); two things to own at once; sorted pairs. -/
namespace FD
open PySem L2
end FD
/-! FD: xs.pop(); two things to own at once; sorted pairs; tuple(range(a, b)); int of a truth; text * n. -/
namespace FD
variable [TabT]
open PySem L2
section
variable {K : PySem.W.Frag} {W : WX} {bv : Nat → Option V} {e : Env} {σ : L2.St} {F H : Hp} {fp : Nat → List Addr}
/-- behind a first thing that is owned by nobody yet -/
theorem AtS.bndM2 {f : EM M} {k : M → EM Flow} {D : Ends} {F0 H0 : Hp} {fp0 : Nat → List Addr} (s : Stp F0 H0 (Pf fp0) F H (Pf fp)) (S : SS K bv e σ F H fp) (h : AtS K W bv (bnd f k) e σ F0 H0 fp0 D) :
    tM K W bv f σ H fun x H1 => ∃ m e1 F1 fp1 P1, f e = .ok m e1 ∧ Stp F H (Pf fp) F1 H1 P1 ∧ SS K bv e1 σ F1 H1 fp1 ∧ rM K F1 H1 fp1 P1 x m ∧ AtS K W bv (k m) e1 σ F0 H0 fp0 D := by
  refine ⟨e, F, fp, S, ?_⟩
  unfold AtS FD.bnd at h
  unfold AtG
  cases q : f e with
  | no => rw [q] at h; exact h
  | ex C fs e' => rw [q] at h; exact fun F' H' fp' dx s' S' x => h σ F' H' fp' dx (s.trans s') S' x
  | ok a e' =>
    rw [q] at h
    intro x F' H' fp' P' s' S' r'
    exact ⟨a, e', F', fp', P', rfl, s', S', r', h⟩
end
def parMM (i j : Nat) (fm fn : EM M) : EM Flow := bnd fm fun m => bnd fn fun n => seqS (stoM j n) (stoM i m)
section
variable {X : Cx} {W : WX} {bv : Nat → Option V} {pos : Pos} {a b : Expr} {fa fb : EM D} {fm fn : EM M}
theorem ds_parMM (i j : Nat) {x y : Str} {px py pt : Pos} {kt k2 pt2} (hN : X.N.Nodup) (ha : DM X W bv a fm) (hb : DM X W bv b fn) (hc : X.calm = true := by rfl) (hi : X.N[i]? = some x := by rfl) (hj : X.N[j]? = some y := by rfl) (hij : i ≠ j := by decide)
    (hx : X.env.scope.names.lookup x = some .local := by rfl) (hy : X.env.scope.names.lookup y = some .local := by rfl) (hbi : bv i = none := by rfl) (hbj : bv j = none := by rfl)
    (hw : swappedStores [.Tuple [.Name x px, .Name y py] kt pt] (.Tuple [a, b] k2 pt2) X.env = pure (some [x, y]) := by rfl)
    (hs : swapsWithSole [.Tuple [.Name x px, .Name y py] kt pt] (.Tuple [a, b] k2 pt2) pos.line X.env = pure false := by rfl)
    (hs1 : starEach (a :: [b]) X.env = (false, eval a X.env) :: starEach [b] X.env := by rfl) (hs2 : starEach (b :: []) X.env = (false, eval b X.env) :: starEach [] X.env := by rfl) :
    DS X W bv (.Assign [.Tuple [.Name x px, .Name y py] kt pt] (.Tuple [a, b] k2 pt2) pos) (parMM i j fm fn) :=
  ps_imp (ps_par hc hN hi hj hij hx hy (pa_cons ha (pa_cons hb pa_nil hs2) hs1) hw hs) fun D σ H ⟨e, F, fp, S, q⟩ => by
    refine tG.mono (AtS.bndM S q) fun v H1 ⟨m, e1, F1, fp1, P1, _, s1, S1, r1, q1⟩ => ?_
    obtain ⟨fpm, hP1, om, ndm, djm, frm⟩ := r1
    have s1' : Stp F H (Pf fp) F1 H1 (Pf fp1) := ⟨s1.ext, s1.keep, s1.live, s1.tbl, s1.newF, fun a h => s1.newP a (by rw [hP1]; exact .inl h)⟩
    refine tG.mono (AtS.bndM2 s1' S1 q1) fun w H2 ⟨n, e2, F2, fp2, P2, _, s2, S2, r2, q2⟩ => ?_
    refine ⟨v, w, rfl, ?_⟩
    obtain ⟨fpr, hP, o, nd, dj, fr⟩ := r2
    have off : ∀ c ∈ fpm, ∃ ob, H1 c = some ob ∧ H2 c = some ob ∧ ¬ P2 c ∧ F2 c = none := fun c hc => by
      obtain ⟨ob, hob⟩ := om.live c hc
      have np := djm c hc
      have nf := frm c hc
      have k := s2.keep c ob hob np (.inl nf) (om.nx c hc ob hob).1
      refine ⟨ob, hob, k, (fun z => (s2.newP c z).elim np (fun z => by rw [hob] at z; cases z)), ?_⟩
      cases hF : F2 c with
      | none => rfl
      | some u =>
        rcases s2.newF c (by rw [hF]; simp) with z | z | z
        · exact absurd nf z
        · exact absurd z np
        · obtain ⟨ws, hw⟩ := z ob hob
          subst hw
          exact absurd hob (om.ntup c hc ws)
    unfold AtS seqS at q2
    by_cases hl : j < e2.length
    · have e4 : stoM j n e2 = .ok .nxt (e2.set j (some n)) := by unfold stoM; rw [if_pos hl]
      rw [e4] at q2
      have S3 := S2.store (P := P2) hl hbj o nd dj fr
      have s3 := stp_store (i := j) s2 hP
      have s13 : Stp F H (Pf fp) F2 H2 (Pf (put fp2 j fpr)) := s1'.trans s3
      by_cases hl2 : i < (e2.set j (some n)).length
      · have e5 : stoM i m (e2.set j (some n)) = .ok .nxt ((e2.set j (some n)).set i (some m)) := by unfold stoM; rw [if_pos hl2]
        simp only [e5] at q2
        have om2 : Own X.K F2 H2 v m fpm := om.mono s2.ext fun c hc ob hob => by
          obtain ⟨ob', z1, z2, _⟩ := off c hc
          rw [hob] at z1
          cases z1
          exact z2
        have dj2 : ∀ c ∈ fpm, ¬ Pf (put fp2 j fpr) c := fun c hc ⟨l, hl⟩ => by
          obtain ⟨_, _, _, np, _⟩ := off c hc
          rw [hP] at np
          by_cases n : l = j
          · subst n; rw [put_same] at hl; exact np (.inr hl)
          · rw [put_ne n] at hl; exact np (.inl ⟨l, hl⟩)
        have S4 := S3.store (P := P2) hl2 hbi om2 ndm dj2 fun c hc => let ⟨_, _, _, _, z⟩ := off c hc; z
        rw [List.set_comm _ _ hij]
        refine q2 _ F2 H2 (put (put fp2 j fpr) i fpm) ⟨s13.ext, s13.keep, s13.live, s13.tbl, s13.newF, fun c ⟨l, hl⟩ => ?_⟩ S4
        by_cases n : l = i
        · subst n; rw [put_same] at hl
          exact s1.newP c (by rw [hP1]; exact .inr hl)
        · rw [put_ne n] at hl
          exact s13.newP c ⟨l, hl⟩
      · have e5 : stoM i m (e2.set j (some n)) = .no := by unfold stoM; rw [if_neg hl2]
        simp only [e5] at q2
        exact q2.elim
    · have e4 : stoM j n e2 = .no := by unfold stoM; rw [if_neg hl]
      rw [e4] at q2
      exact q2.elim
/-! ### xs.pop() -/
/-! ### tuple(range(a, b)) -/
/-! ### int of a truth -/
def intB : List D → Option D
  | [.bool b] => some (.int (if b then 1 else 0))
  | [.int i] => some (.int i)
  | _ => none
theorem cb_intB : CbD X (.type "int") intB := by
  refine ⟨_, call_int1, ?_⟩
  intro W bv e σ F H fp vs ds Q S r q
  obtain ⟨d, hd, q'⟩ := q.lif
  unfold intB at hd
  split at hd
  · cases hd
    cases r with
    | cons r t =>
      cases t
      cases r
      exact .inr ⟨_, rfl, AtG.here (r := rD X.K) S q' (.int _)⟩
  · cases hd
    cases r with
    | cons r t =>
      cases t
      cases r
      exact .inl ⟨_, rfl, AtG.here (r := rD X.K) S q' (.int _)⟩
  · cases hd
end
end FD
/-! FD: sorted pairs; text * n. -/
namespace FD
open PySem L2
end FD
/-! FD: C(e, .., k = v, ..) where __init__ has keyword-only parameters. -/
namespace FD
variable [TabT]
open PySem L2
section
variable {X : Cx} {W : WX} {bv : Nat → Option V} {pos p : Pos} {a : Expr} {es : List Expr} {kws : List Keyword} {fa : EM D} {fs fk : EM (List D)} {x C : Str} {k n : Nat} {ps ks : List Str} {Fs : List M → FOut} {ix : List (Nat ⊕ Nat)} {ds : List D} {nm : Option Str} {kpos : Pos}
def makeK (Fs : List M → FOut) (C : Str) (n m : Nat) (ix : List (Nat ⊕ Nat)) (ds : List D) (fs fk : EM (List D)) : EM M := bnd fs fun as => bnd fk fun bs => if as.length = n ∧ bs.length = m then mkF Fs C ((pick (as ++ bs) ds ix).map .im) else fun _ => .no
end
end FD
/-! FD: objects that are looked at alone: frozen views. -/
namespace FD
variable [TabT]
open PySem L2
/-! ### data without lists and dicts -/
mutual
def tupD : D → Bool
  | .none => true
  | .bool _ => true
  | .int _ => true
  | .str _ => true
  | .tuple ds => tupDs ds
  | _ => false
def tupDs : List D → Bool
  | [] => true
  | d :: ds => tupD d && tupDs ds
end
def cutH (F : Hp) (l : List Addr) : Hp := fun a => if a ∈ l then none else F a
theorem cut_out {F : Hp} {l : List Addr} {a : Addr} (h : a ∉ l) : cutH F l a = F a := if_neg h
mutual
theorem Rp.cutT {K : PySem.W.Frag} {F : Hp} {l : List Addr} (nt : ∀ a vs, F a = some (.tup vs) → a ∉ l) : ∀ {v : V} {d : D}, tupD d = true → Rp K F v d → Rp K (cutH F l) v d
  | _, _, _, .non => .non
  | _, _, _, .bl b => .bl b
  | _, _, _, .int i => .int i
  | _, _, _, .str x => .str x
  | _, _, h, .lst _ _ => by simp [tupD] at h
  | _, _, h, .tup ht r => .tup ((cut_out (nt _ _ ht)).trans ht) (RpL.cutT nt (by simpa [tupD] using h) r)
  | _, _, h, .dK _ _ _ => by simp [tupD] at h
  | _, _, h, .dT _ _ _ => by simp [tupD] at h
  | _, _, h, .kt _ _ _ => by simp [ktD, tupD] at h
  | _, _, h, .opq _ => by simp [opqK, tupD] at h
  | _, _, h, .fn _ => by simp [fnK, tupD] at h
theorem RpL.cutT {K : PySem.W.Frag} {F : Hp} {l : List Addr} (nt : ∀ a vs, F a = some (.tup vs) → a ∉ l) : ∀ {vs : List V} {ds : List D}, tupDs ds = true → RpL K F vs ds → RpL K (cutH F l) vs ds
  | _, _, _, .nil => .nil
  | _, _, h, .cons r t => by
    simp only [tupDs, Bool.and_eq_true] at h
    exact .cons (Rp.cutT nt h.1 r) (RpL.cutT nt h.2 t)
end
def tidyI : M → Bool
  | .im d => tupD d
  | _ => false
def tidyF : M → Bool
  | .im d => tupD d
  | .ls ms => ms.all tidyI
  | _ => false
def tidyM : M → Bool
  | .im d => tupD d
  | .ob _ fms => (fms.map (·.2)).all tidyF
  | _ => false
section
variable {K : PySem.W.Frag} {F H : Hp} {l : List Addr}
theorem OwnL.cutI (nt : ∀ a vs, F a = some (.tup vs) → a ∉ l) : ∀ {vs : List V} {ms : List M} {fq : List Addr}, ms.all tidyI = true → OwnL K F H vs ms fq → OwnL K (cutH F l) H vs ms fq
  | _, _, _, _, .nil => .nil
  | _, _, _, h, .cons o t => by
    simp only [List.all_cons, Bool.and_eq_true] at h
    refine .cons ?_ (OwnL.cutI nt h.2 t)
    cases o with
    | im r => exact .im (r.cutT nt h.1)
    | _ => exact absurd h.1 Bool.false_ne_true
theorem OwnL.cutF (nt : ∀ a vs, F a = some (.tup vs) → a ∉ l) : ∀ {vs : List V} {ms : List M} {fq : List Addr}, ms.all tidyF = true → OwnL K F H vs ms fq → OwnL K (cutH F l) H vs ms fq
  | _, _, _, _, .nil => .nil
  | _, _, _, h, .cons o t => by
    simp only [List.all_cons, Bool.and_eq_true] at h
    refine .cons ?_ (OwnL.cutF nt h.2 t)
    cases o with
    | im r => exact .im (r.cutT nt h.1)
    | ls ha r => exact .ls ha (r.cutI nt h.1)
    | _ => exact absurd h.1 Bool.false_ne_true
theorem Own.cut (nt : ∀ a vs, F a = some (.tup vs) → a ∉ l) {v : V} {m : M} {fq : List Addr} (h : tidyM m = true) (o : Own K F H v m fq) : Own K (cutH F l) H v m fq := by
  cases o with
  | im r => exact .im (r.cutT nt h)
  | ob hC ha e r => exact .ob hC ha e (r.cutF nt h)
  | _ => exact absurd h Bool.false_ne_true
end
/-! ### an object lent out to be looked at -/
def flatF : M → Bool
  | .im _ => true
  | .ls ms => ms.all isIm
  | _ => false
def frzF (fms : List (Str × M)) : Option (List (Str × D)) := if (fms.map (·.2)).all flatF then (toDs (fms.map (·.2))).map fun ds => (fms.map (·.1)).zip ds else none
def roF (Fs : List M → FOut) (C : Str) (fds : List (Str × D)) (ds : List D) : EM M := fun e => match Fs (.fz C fds :: ds.map .im) with
  | .ok r _ => if tidyM r then .ok r e else .no
  | _ => .no
end FD
/-! FD: reads and methods of frozen views. -/
namespace FD
variable [TabT]
open PySem L2
/-- self.f of a frozen view -/
def getF (i : Nat) (C f : Str) (e : Env) : Option D := match e[i]? with
  | some (some (.fz C' fds)) => if C' = C then fds.lookup f else none
  | _ => none
section
variable {X : Cx} {W : WX} {bv : Nat → Option V} {pos p px apos : Pos} {a b o : Expr} {es : List Expr} {fa : EM D} {fm : EM M} {gs : Env → Option (List D)} {x C m f : Str} {i k : Nat} {π : Way} {ps : List Str} {Fs : List M → FOut}
/-- a method of a frozen view, from a frozen view -/
def methZ (i : Nat) (C m : Str) (Fs : List M → FOut) (gs : Env → Option (List D)) : EM M := fun e => match e[i]? with
  | some (some (.fz C' fds)) => if C' = C ∧ fds.lookup m = none then (match gs e with
    | some ds => giveF Fs (.fz C fds :: ds.map .im) e
    | none => .no) else .no
  | _ => .no
/-- a method that looks alone, of an object that is owned at a place -/
def methR (i : Nat) (π : Way) (C m : Str) (Fs : List M → FOut) (gs : Env → Option (List D)) : EM M := fun e => match pgM i π e with
  | some (.ob C' fms) => if C' = C ∧ fms.lookup m = none then (match frzF fms with
    | some fds => (match gs e with
      | some ds => roF Fs C fds ds e
      | none => .no)
    | none => .no) else .no
  | _ => .no
end
end FD
/-! FD: several things to own in a row; o.f, o.g = ..; list(..) to own; xs.index(k) of data. -/
namespace FD
variable [TabT]
open PySem L2
section
variable {X : Cx} {W : WX} {bv : Nat → Option V} {pos p px apos : Pos} {a b o : Expr} {es : List Expr} {fa fb : EM D} {fm : EM M} {fv : EM (List M)} {ga : Env → Option D} {gs : Env → Option (List D)} {x C f : Str} {i k : Nat} {π : Way}
def vMM (f : EM M) (fv : EM (List M)) : EM (List M) := bnd f fun m => bnd fv fun ms => ret (m :: ms)
/-! ### targets that are attributes -/
/-- o.f, o.g, .. stored one after another -/
def setFs (i : Nat) (π : Way) (C : Str) : List Str → List M → Env → Option Env
  | [], [], e => some e
  | f :: fs, m :: ms, e => match (pgM i π e).bind (fldK C f m) with
    | some m' => setFs i π C fs ms (psM i π m' e)
    | none => none
  | _, _, _ => none
def fldsS (i : Nat) (π : Way) (C : Str) (fl : List Str) (fv : EM (List M)) : EM Flow := bnd fv fun ms e => if few ms.length then (match setFs i π C fl ms e with
  | some e' => .ok .nxt e'
  | none => .no) else .no
/-! ### list(..) to own -/
def lsM (f : EM D) : EM M := bnd f fun d => match d with
  | .list ds => ret (.ls (ds.map .im))
  | .tuple ds => ret (.ls (ds.map .im))
  | _ => fun _ => .no
def rgM (f : EM D) : EM M := bnd f fun d => match rgD .list [d] with
  | some (.list ds) => ret (.ls (ds.map .im))
  | _ => fun _ => .no
/-! ### xs.index(k) of data -/
def indexD (x y : D) : Option D := match x, y with
  | .list ds, .int k => match intsOf ds with
    | some ns => if k ∈ ns then some (.int (ns.idxOf k : Nat)) else none
    | none => none
  | _, _ => none
end
end FD
/-! FD: xs.index(k) of data; a, b = a list. -/
namespace FD
variable [TabT]
open PySem L2
section
variable {X : Cx} {W : WX} {bv : Nat → Option V} {pos p px apos : Pos} {a b o : Expr} {es : List Expr} {fa fb fo : EM D}
def idxE (fo fa : EM D) : EM D := bnd fo fun x => match x with
  | .list ds => bnd fa fun y => lif (indexD (.list ds) y)
  | _ => fun _ => .no
/-! ### a, b = a list -/
end
end FD
/-! FD: a list of lists, all owned. -/
namespace FD
open PySem L2
end FD
/-! FD: xs[k].pop(0) of a list of lists. -/
namespace FD
open PySem L2
end FD
/-! FD: len(set(a tuple of numbers)), none of them twice. -/
namespace FD
open PySem L2 PySem.Spec PyProof.Rows
end FD
/-! FD: list(text), list(..) * n. -/
namespace FD
variable [TabT]
open PySem L2
section
variable {X : Cx} {W : WX} {bv : Nat → Option V} {pos p px apos : Pos} {a b o : Expr} {es : List Expr} {fa : EM D} {fm : EM M}
def rLstS : List V → Hp → VK → Prop := fun xs H Q => ∃ z, xs = [.str z] ∧ z.length ≤ sizeLine ∧ ∀ p, H p = none → Q (.ref p) (upd H p (.lst (charsV z)))
theorem call_lstS (hc : X.calm = true) : CallR X (.type "list") rLstS := by
  intro pins s σ H xs us Q I r h
  obtain ⟨z, rfl, hz, q⟩ := h
  obtain ⟨u, rfl, rx⟩ := vals1 r
  obtain ⟨t, rfl⟩ := rx
  refine call_list_str (I.ok.hd hc) z t (fun h' tk acc c hk hl hi => ?_) hz
  refine ⟨.ref s.heap.objs.size, _, I.laid (t' := tk) hk (Nat.le_refl _) (show ObjOk X.prog X.w _ _ _ (.lst (charsV z)) from ⟨?_, acc.toList, c, vals_chars hi, ?_⟩), rfl, q _ (I.hok.fresh (Nat.le_refl _))⟩
  · unfold charsV; rw [List.length_map, Array.length_toList]; exact hz
  · rw [Array.toArray_toList]; exact hl
/-- list of anything that is walked, to own -/
def lsX (f : EM D) : EM M := bnd f fun d => match d with
  | .list ds => ret (.ls (ds.map .im))
  | .tuple ds => ret (.ls (ds.map .im))
  | .str z => if few z.length then ret (.ls ((chars z).map .im)) else fun _ => .no
  | _ => fun _ => .no
theorem dm_listX {p pos : Pos} (h : DE X W bv a fa) (hm : X.mg "list" = none) (hc : X.calm = true := by rfl) (hg : Gl X "list" := by rfl) (he : starEach [a] X.env = (false, eval a X.env) :: starEach [] X.env := by rfl) : DM X W bv (.Call (.Name "list" p) [a] [] pos) (lsX fa) :=
  pe_imp (pe_callTy (CallR.or call_list_of (call_lstS hc)) hg hm (by rfl) (pa_cons h pa_nil he) (by decide) (by decide) he rfl) fun σ H Q t => by
    refine tG.mono (tG.bnd (r := rD X.K) t) fun x H1 ⟨d, e1, F1, fp1, S1, r1, q1⟩ => ?_
    cases r1 with
    | lst h rl => exact .inl ⟨_, _, rfl, .inl (S1.sub.l h), fun p hp => AtG.mkM S1 q1 hp (Own.ls (fp := []) upd_same (OwnL.ims rl))⟩
    | tup h rl => exact .inl ⟨_, _, rfl, .inr (S1.sub.t h), fun p hp => AtG.mkM S1 q1 hp (Own.ls (fp := []) upd_same (OwnL.ims rl))⟩
    | str z =>
      dsimp only at q1
      by_cases hz : few z.length = true
      · rw [if_pos hz] at q1
        exact .inr ⟨z, rfl, few_le hz, fun p hp => AtG.mkM S1 q1 hp (Own.ls (fp := []) upd_same (OwnL.ims (rpl_chars _)))⟩
      · rw [if_neg hz] at q1; exact q1.elim
    | _ => exact q1.elim
/-- a new list, n times -/
def repN (fm : EM M) (n : Nat) : EM D := bnd fm fun m => match m with
  | .ls ms => match imAll ms with
    | some ds => if few (ds.length * n) then ret (.list (List.replicate n ds).flatten) else fun _ => .no
    | none => fun _ => .no
  | _ => fun _ => .no
end
end FD
/-! FD: frozen objects handed about: made, in lists, unpacked, compared by their own ==. -/
namespace FD
variable [TabT]
open PySem L2
def isFz : M → Bool
  | .fz _ _ => true
  | _ => false
def frzN : M → Option M
  | .ob C fms => (frzF fms).map fun fds => .fz C fds
  | _ => none
/-- what an expression makes is frozen from now on -/
def frzO (f : EM M) : EM M := bnd f fun m => lif (frzN m)
section
variable {X : Cx} {W : WX} {bv : Nat → Option V} {pos p px apos : Pos} {a b o : Expr} {es : List Expr} {fa fb : EM D} {fm : EM M} {gs : Env → Option (List D)} {C m x y : Str} {i j k : Nat} {ps : List Str} {Fs : List M → FOut}
/-! ### a method of a frozen object that an expression makes -/
def methTZ (C m : Str) (Fs : List M → FOut) (fm : EM M) (gs : Env → Option (List D)) : EM M := bnd fm fun r => match r with
  | .fz C' fds => if C' = C ∧ fds.lookup m = none then bnd (qE gs) fun ds => giveF Fs (.fz C fds :: ds.map .im) else fun _ => .no
  | _ => fun _ => .no
/-! ### two frozen objects compared by their class's own == -/
/-! ### a == b == c -/
end
end FD
/-! FD: a comprehension that makes frozen objects; such a list unpacked. -/
namespace FD
variable [TabT]
open PySem L2
/-- frozen things by their frozen heap alone -/
inductive RzL (K : PySem.W.Frag) (F : Hp) : List V → List M → Prop
  | nil : RzL K F [] []
  | cons {v : V} {vs : List V} {m : M} {ms : List M} : isFz m = true → (∀ H, Own K F H v m []) → RzL K F vs ms → RzL K F (v :: vs) (m :: ms)
theorem RzL.mono {K : PySem.W.Frag} {F G : Hp} (s : Sub F G) : ∀ {vs : List V} {ms : List M}, RzL K F vs ms → RzL K G vs ms
  | _, _, .nil => .nil
  | _, _, .cons h o t => .cons h (fun H => (o H).mono s fun a ha => by cases ha) (t.mono s)
theorem RzL.app {K : PySem.W.Frag} {F : Hp} {v : V} {m : M} (h : isFz m = true) (o : ∀ H, Own K F H v m []) : ∀ {vs : List V} {ms : List M}, RzL K F vs ms → RzL K F (vs ++ [v]) (ms ++ [m])
  | _, _, .nil => .cons h o .nil
  | _, _, .cons h' o' t => .cons h' o' (t.app h o)
theorem RzL.length {K : PySem.W.Frag} {F : Hp} : ∀ {vs : List V} {ms : List M}, RzL K F vs ms → vs.length = ms.length
  | _, _, .nil => rfl
  | _, _, .cons _ _ t => by rw [List.length_cons, List.length_cons, t.length]
theorem RzL.own {K : PySem.W.Frag} {F H : Hp} : ∀ {vs : List V} {ms : List M}, RzL K F vs ms → OwnL K F H vs ms []
  | _, _, .nil => .nil
  | _, _, .cons _ o t => OwnL.cons (fp := []) (fq := []) (o H) t.own
section
variable {K : PySem.W.Frag} {W : WX} {bv : Nat → Option V} {σ : L2.St}
structure CZ (K : PySem.W.Frag) (bv : Nat → Option V) (e : Env) (σ : L2.St) (F H : Hp) (fp : Nat → List Addr) (A : Addr) (ys : List M) : Prop where
  ss : SS K bv e σ F H fp
  li : ∃ acc, H A = some (.lst acc) ∧ RzL K F acc ys
  nf : F A = none
  np : ¬ Pf fp A
theorem CZ.step {e e' : Env} {σ' : L2.St} {F H F' H' : Hp} {fp fp' : Nat → List Addr} {A : Addr} {ys : List M} (C : CZ K bv e σ F H fp A ys) (s : Stp F H (Pf fp) F' H' (Pf fp')) (S' : SS K bv e' σ' F' H' fp') : CZ K bv e' σ' F' H' fp' A ys := by
  obtain ⟨acc, h1, h2⟩ := C.li
  refine ⟨S', ⟨acc, s.keep A _ h1 C.np (.inl C.nf) (nt_lst _), h2.mono s.ext⟩, ?_, fun z => ?_⟩
  · cases q : F' A with
    | none => rfl
    | some o =>
      rcases s.newF A (by rw [q]; simp) with z | z | z
      · exact absurd C.nf z
      · exact absurd z C.np
      · obtain ⟨_, z⟩ := z _ h1; exact (fx_lst z).elim
  · rcases s.newP A z with z | z
    · exact C.np z
    · rw [h1] at z; cases z
theorem CZ.app {e : Env} {F H : Hp} {fp : Nat → List Addr} {A : Addr} {ys : List M} {acc : List V} {v : V} {y : M} (C : CZ K bv e σ F H fp A ys) (h1 : H A = some (.lst acc)) (h2 : RzL K F acc ys) (hy : isFz y = true) (r : ∀ J, Own K F J v y []) : CZ K bv e σ F (upd H A (.lst (acc ++ [v]))) fp A (ys ++ [y]) where
  ss := C.ss.heap (Sub.refl F) (C.ss.sub.mut C.nf) (fun i a o h q => by
    rw [upd_ne fun z => C.np (by rw [← z]; exact ⟨i, h⟩)]
    exact q) C.ss.fr (tabs_upd C.ss.tab h1 (fun _ z => by cases z) (fun _ z => by cases z))
  li := ⟨_, upd_same, h2.app hy r⟩
  nf := C.nf
  np := C.np
end
end FD
/-! FD: isinstance of a frozen object. -/
namespace FD
variable [TabT]
open PySem L2
def isiZ (i : Nat) (C : Str) : EM D := fun e => match e[i]? with
  | some (some (.fz C' _)) => if C' = C then .ok (.bool true) e else .no
  | _ => .no
end FD
/-! FD: functions that look at objects; owned tuples; len of an object; dict of pairs; from behind. -/
namespace FD
variable [TabT]
open PySem L2
/-! ### objects lent to a function that looks alone -/
inductive ZA where
  | z (i : Nat)
  | d (g : Env → Option D)
  | l (i : Nat)
/-- an owned list of data, lent -/
def lAt (i : Nat) (e : Env) : Option D := match e[i]? with
  | some (some (.ls ms)) => (imAll ms).map .list
  | _ => none
def zAt (i : Nat) (e : Env) : Option M := match e[i]? with
  | some (some (.ob C fms)) => (frzF fms).map fun fds => .fz C fds
  | some (some (.fz C fds)) => some (.fz C fds)
  | _ => none
def zaV (e : Env) : List ZA → Option (List M)
  | [] => some []
  | .z i :: r => (zAt i e).bind fun m => (zaV e r).map (m :: ·)
  | .d g :: r => (g e).bind fun d => (zaV e r).map (.im d :: ·)
  | .l i :: r => (lAt i e).bind fun d => (zaV e r).map (.im d :: ·)
def rZA (K : PySem.W.Frag) (σ : L2.St) (F : Hp) : List V → List ZA → List M → Prop
  | [], [], [] => True
  | v :: vs, .z i :: as, _ :: ms => σ[i]? = some (some v) ∧ rZA K σ F vs as ms
  | v :: vs, .d _ :: as, .im d :: ms => Rp K F v d ∧ rZA K σ F vs as ms
  | v :: vs, .l i :: as, _ :: ms => σ[i]? = some (some v) ∧ rZA K σ F vs as ms
  | _, _, _ => False
theorem rZA.mono {K : PySem.W.Frag} {σ : L2.St} {F G : Hp} (s : Sub F G) : ∀ {vs : List V} {as : List ZA} {ms : List M}, rZA K σ F vs as ms → rZA K σ G vs as ms
  | [], [], [], _ => trivial
  | _ :: _, .z _ :: _, _ :: _, h => ⟨h.1, h.2.mono s⟩
  | _ :: _, .d _ :: _, .im _ :: _, h => ⟨h.1.mono s, h.2.mono s⟩
  | _ :: _, .l _ :: _, _ :: _, h => ⟨h.1, h.2.mono s⟩
  | [], _ :: _, _, h => h.elim
  | [], [], _ :: _, h => h.elim
  | _ :: _, [], _, h => h.elim
  | _ :: _, .z _ :: _, [], h => h.elim
  | _ :: _, .d _ :: _, [], h => h.elim
  | _ :: _, .d _ :: _, .ls _ :: _, h => h.elim
  | _ :: _, .d _ :: _, .dk _ :: _, h => h.elim
  | _ :: _, .d _ :: _, .dt _ :: _, h => h.elim
  | _ :: _, .d _ :: _, .ob _ _ :: _, h => h.elim
  | _ :: _, .d _ :: _, .fz _ _ :: _, h => h.elim
  | _ :: _, .d _ :: _, .xc _ _ :: _, h => h.elim
  | _ :: _, .d _ :: _, .lm _ :: _, h => h.elim
  | _ :: _, .d _ :: _, .gone :: _, h => h.elim
  | _ :: _, .d _ :: _, .tp _ :: _, h => h.elim
section
variable {K : PySem.W.Frag} {W : WX} {bv : Nat → Option V} {e : Env} {σ : L2.St} {F H : Hp} {fp : Nat → List Addr}
def roZ (Fs : List M → FOut) (ms : List M) : EM M := fun e => match Fs ms with
  | .ok r _ => if tidyM r then .ok r e else .no
  | _ => .no
end
/-- f(..) of a def that only looks at the objects it is given -/
def callZ (Fs : List M → FOut) (as : List ZA) : EM M := fun e => match zaV e as with
  | some ms => roZ Fs ms e
  | none => .no
end FD
/-! FD: owned tuples; len of an object; dict of pairs; from behind. -/
namespace FD
variable [TabT]
open PySem L2
/-! ### a tuple of things to own; it taken apart -/
def tupV (fv : EM (List M)) : EM M := bnd fv fun ms => if few ms.length then ret (.tp ms) else fun _ => .no
def asgT (i j : Nat) (f : EM M) : EM Flow := bnd f fun m e => match m with
  | .tp [m1, m2] => if decide (i < e.length) && decide (j < e.length) then .ok .nxt ((e.set i (some m1)).set j (some m2)) else .no
  | _ => .no
section
variable {X : Cx} {W : WX} {bv : Nat → Option V} {pos p px py pt apos : Pos} {a b o : Expr} {es : List Expr} {fa fb : EM D} {fm : EM M} {fv : EM (List M)} {C m x y : Str} {i j k : Nat} {ps : List Str} {Fs : List M → FOut}
/-! ### len of an object that has a length of its own -/
/-! ### dict of a list of pairs -/
def kOfP : D → Option Key
  | .int i => some (.inl i)
  | .str z => some (.inr z)
  | _ => none
def pairsD : List D → Option (List (Key × D))
  | [] => some []
  | .tuple [k, v] :: r => (kOfP k).bind fun k => (pairsD r).map ((k, v) :: ·)
  | _ => none
/-! ### from behind -/
end
end FD
/-! FD: a text from behind. -/
namespace FD
open PySem L2 PyProof.Rows PySem.Spec
end FD
/-! FD: exceptions: error classes, raise, defs that may raise, calls of such defs. -/
namespace FD
variable [TabT]
open PySem L2
/-! ### an error class: its __init__ calls the base's __init__ with a text and sets one field -/
section
variable {X : Cx} {W : WX} {bv : Nat → Option V} {pos p p2 : Pos} {a : Expr} {fa : EM D} {C f : Str}
/-- raise C(a) -/
def raiseS (C f : Str) (fa : EM D) : EM Flow := bnd fa fun d e => .ex C [(f, d)] e
end
/-! ### a def that may raise -/
end FD
/-! FD: calls of defs that may raise. -/
namespace FD
variable [TabT]
open PySem L2
def callAtX (Fs : List M → FOut) (as : List AR) : EM M := fun e => if (slotsOf as).Nodup then (match argM e as with
  | none => .no
  | some ms => match Fs ms with
    | .ok r ms' => if ms'.length = ms.length then .ok r (putB e as ms') else .no
    | .ex C fs ms' => if ms'.length = ms.length then .ex C fs (putB e as ms') else .no
    | .no => .no) else .no
def callMX (Fs : List M → FOut) (fr : EM (List AR)) : EM M := bnd fr fun as => callAtX Fs as
def callDX (Fs : List M → FOut) (fr : EM (List AR)) : EM D := frzE (callMX Fs fr)
end FD
/-! FD: try .. except C as n: the error stays known behind the suite. -/
namespace FD
open PySem L2
open PyProof.Rows (AllBare)
end FD
/-! FD: try with a kept error; a kept error asked: is None, its field. -/
namespace FD
variable [TabT]
open PySem L2
def isHole : Option (Option M) → Bool
  | some none => true
  | _ => false
/-- try: g / except C as n: the slot j keeps it; m: which classes the clause takes -/
def tryK (m : Str → Option Bool) (i j : Nat) (g : EM Flow) : EM Flow := fun e => match g e with
  | .ex C fs e' => match m C with
    | some true => if decide (j < e'.length) && isHole e'[i]? then .ok .nxt (e'.set j (some (.xc C fs))) else .no
    | some false => .ex C fs e'
    | none => .no
  | o => o
end FD
/-! FD: a kept error asked: is None, its field. -/
namespace FD
variable [TabT]
open PySem L2
def isNonD : D → Bool
  | .none => true
  | _ => false
/-- x is None, x data or a kept error -/
def isNonP (i : Nat) : EM Bool := fun e => match e[i]? with
  | some (some (.im d)) => .ok (isNonD d) e
  | some (some (.xc _ _)) => .ok false e
  | _ => .no
section
variable {X : Cx} {W : WX} {bv : Nat → Option V} {pos px pc : Pos} {x f : Str} {jc}
def xfE (i : Nat) (C f : Str) : EM D := fun e => match e[i]? with
  | some (some (.xc C' fs)) => if C' = C then (match fs.lookup f with
    | some d => .ok d e
    | none => .no) else .no
  | _ => .no
end
end FD
/-! FD: a lambda made: what is known of the heaps behind it. -/
namespace FD
variable [TabT]
open PySem L2 LamX
/-- behind the making: the code was known, or it is new and the table at P has grown -/
def Made (H H1 : Hp) (P c1 : Addr) (q0 : Str) : Prop := (H1 = H ∧ H c1 = some (CodeO c1 q0)) ∨ ∃ ps ps' : Array Value, H P = some (.tbl ps) ∧ H c1 = none ∧ H1 = upd (upd H P (.tbl ps')) c1 (CodeO c1 q0)
theorem Made.code {H H1 : Hp} {P c1 : Addr} {q0 : Str} (m : Made H H1 P c1 q0) : H1 c1 = some (CodeO c1 q0) := by
  rcases m with ⟨e, h⟩ | ⟨_, _, _, _, e⟩
  · rw [e]; exact h
  · rw [e, upd_same]
theorem Made.keep {H H1 : Hp} {P c1 : Addr} {q0 : Str} (m : Made H H1 P c1 q0) {b : Addr} {o : HO} (h : H b = some o) (n : Nt o) : H1 b = some o := by
  rcases m with ⟨e, _⟩ | ⟨ps, _, hP, hc, e⟩
  · rw [e]; exact h
  · rw [e, upd_ne (ne_of_none h hc), upd_ne fun z => by rw [z, hP] at h; cases h; exact n ps rfl]
    exact h
end FD
/-! FD: the lambda called by the def that got it, its error wished at that def's very slots. -/
namespace FD
open PySem L2 LamX
open PyProof.Rows (envOfC)
end FD
/-! FD: x(lambda: body), with what is known of the heaps. -/
namespace FD
open PySem L2 LamX
end FD
/-! FD: said(lambda: e) as a denotation. -/
namespace FD
variable [TabT]
open PySem L2 LamX
/-- what a deed gives -/
inductive Dd where
  | ok (d : D)
  | ex (C : Str) (fs : List (Str × D))
  | no
def imOnly (e : Env) : Env := e.map fun o => match o with
  | some (.im d) => some (.im d)
  | some (.fz C fs) => some (.fz C fs)
  | _ => none
def resD (f : EM D) (e : Env) : Dd := match f (imOnly e) with
  | .ok d _ => .ok d
  | .ex C fs _ => .ex C fs
  | .no => .no
open Classical in
noncomputable def deedE (Φ : V → Hp → Prop) (r : Dd) : EM D := fun e => if e[0]? = some (some (.lm Φ)) then (match r with
  | .ok d => .ok d e
  | .ex C fs => .ex C fs e
  | .no => .no) else .no
open Classical in
noncomputable def lamS (Fs : (V → Hp → Prop) → Dd → FOut) (fe : EM D) : EM D := fun e => if h : ∃ d, ∀ Φ, ∃ ms', Fs Φ (resD fe e) = .ok (.im d) ms' then .ok h.choose e else .no
theorem lamS_eq {Fs : (V → Hp → Prop) → Dd → FOut} {fe : EM D} {e : Env} {d : D} (h : ∀ Φ, ∃ ms', Fs Φ (resD fe e) = .ok (.im d) ms') : lamS Fs fe e = .ok d e := by
  have hx : ∃ d, ∀ Φ, ∃ ms', Fs Φ (resD fe e) = .ok (.im d) ms' := ⟨d, h⟩
  unfold lamS
  rw [dif_pos hx]
  obtain ⟨m1, e1⟩ := hx.choose_spec (fun _ _ => True)
  obtain ⟨m2, e2⟩ := h (fun _ _ => True)
  rw [e1] at e2
  cases e2
  rfl
theorem Made.stp {F H H1 : Hp} {P c1 : Addr} {q0 : Str} {R : Addr → Prop} (m : Made H H1 P c1 q0) : Stp F H R F H1 R where
  ext := Sub.refl F
  keep := fun a o h _ _ t => m.keep h t
  live := fun a h => by
    cases q : H a with
    | none => rfl
    | some o =>
      by_cases t : Nt o
      · rw [m.keep q t] at h; cases h
      · rcases m with ⟨e, _⟩ | ⟨ps, ps', hP, hc, e⟩
        · rw [e, q] at h; cases h
        · rw [e] at h
          by_cases z : a = c1
          · rw [z, upd_same] at h; cases h
          · rw [upd_ne z] at h
            by_cases y : a = P
            · rw [y, upd_same] at h; cases h
            · rw [upd_ne y, q] at h; cases h
  tbl := fun a ps h => by
    rcases m with ⟨e, _⟩ | ⟨qs, qs', hP, hc, e⟩
    · exact ⟨ps, by rw [e]; exact h⟩
    · by_cases y : a = P
      · exact ⟨qs', by rw [e, upd_ne (ne_of_none h hc), y, upd_same]⟩
      · exact ⟨ps, by rw [e, upd_ne (ne_of_none h hc), upd_ne y]; exact h⟩
  newF := fun _ h => .inl h
  newP := fun _ h => .inl h
theorem Made.sub {F H H1 : Hp} {P c1 : Addr} {q0 : Str} (m : Made H H1 P c1 q0) (s : Sub F H) : Sub F H1 where
  rdN := fun a u t r => by
    rcases s.rdN a u t r with z | ⟨o, z⟩
    · exact .inl (m.keep z t)
    · exact .inr ⟨o, m.keep z fun _ y => nomatch y⟩
  ex := fun a u x h => m.keep (s.ex a u x h) x.2
  nn := fun a h => s.nn a ((m.stp (F := F) (R := noP)).live a h)
end FD
/-! FD: the def that gets the lambda. -/
namespace FD
open PySem L2 LamX
end FD
/-! FD: said(lambda: body) for the printer; a def that holds lambdas; the end with tables. -/
namespace FD
variable [TabT]
open PySem L2 LamX
open PyProof.Rows (AllBare envOfC)
/-- its body, derived with the deed -/
def SaidB (P : Program) (w : World) (K : PySem.W.Frag) (mg : Str → Option Value) (base : Heap) (k : Nat) (x a : Str) (st : Stmt) (N : List Str) (gs : (V → Hp → Prop) → Dd → EM Flow) : Prop :=
  ∀ (g : Addr) (cdg : Value) (A : Around) (outer : List PySem.Env) (Φ : V → Hp → Prop) (r : Dd) (f : Addr) (s : Shared) (H : Hp), (A.deeper (envOfC x (defScope st) s.heap.objs.size g cdg)).guards = some [] → Room k (A.deeper (envOfC x (defScope st) s.heap.objs.size g cdg)) →
    (∀ (W : WX) (pn : List (Addr × Obj)) (xe : Value → Shared → Prop) (p1 p2 : Pos), Takes ((cxOf CX0 P w K mg base N x (defScope st) g cdg A outer s H E0).tr pn xe) W →
      DE ((cxOf CX0 P w K mg base N x (defScope st) g cdg A outer s H E0).tr pn xe) W (bvB [] [.ref f]) (.Call (.Name a p1) [] [] p2) (deedE Φ r)) →
    DSs (cxOf CX0 P w K mg base N x (defScope st) g cdg A outer s H E0).nox W0 (bvB [] [.ref f]) (defBody st) (gs Φ r)
theorem SaidB.mono {P : Program} {w : World} {K : PySem.W.Frag} {mg : Str → Option Value} {base : Heap} {j k : Nat} {x a : Str} {st : Stmt} {N : List Str} {gs : (V → Hp → Prop) → Dd → EM Flow} (h : SaidB P w K mg base j x a st N gs) (le : j ≤ k) : SaidB P w K mg base k x a st N gs :=
  fun g cdg A outer Φ r f s H hg hr => h g cdg A outer Φ r f s H hg (hr.mono le)
/-! ### a def that holds lambdas: its code object is known -/
end FD
/-! FD: the law's own call where defs hold lambdas. -/
namespace FD
open PySem L2 LamX
open PyProof.Rows (AllBare)
open Classical
end FD
/-! FD: range with a step: walked, as a tuple. -/
namespace FD
open PySem L2
open PySem.Spec PyProof.Rows
end FD
/-! FD: what the head says of error classes. -/
namespace FD
open PySem L2
end FD
/-! FD: text * n, tuple * n. -/
namespace FD
open PySem L2
end FD
/-! FD: a, b, c, .. = w, x, y, ..: things to own among them. -/
namespace FD
variable [TabT]
open PySem L2
def stoL : List Nat → List M → Env → Option Env
  | [], [], e => some e
  | i :: is, m :: ms, e => if i < e.length then stoL is ms (e.set i (some m)) else none
  | _, _, _ => none
def asgN (is : List Nat) (f : EM M) : EM Flow := bnd f fun m e => match m with
  | .tp ms => (match stoL is ms e with
    | some e' => .ok .nxt e'
    | none => .no)
  | _ => .no
end FD
/-! FD: sets of things of one kind, made from whatever is walked, with what their own walk asks. -/
namespace FD
open PySem PySem.Spec L2 PyProof.Rows
section
variable {P : Program} {w : World} {κt : Type} [DecidableEq κt] (κ : KeyKind P w κt)
/-- no two that are one key -/
def Unl (l : List (Int × Value)) : Prop := l.Pairwise fun e f => ∀ k, ¬ (κ.is k e.2 = true ∧ κ.is k f.2 = true)
structure StD (M : κt → Bool) (m : Nat) (es : Array (Int × Value)) (tb : SetTable) : Prop where
  of : ElemsOf κ es.toList
  mem : ∀ k, M k = true ↔ ∃ e ∈ es.toList, κ.is k e.2 = true
  few : es.size < scanBound
  fit : tb.fits es.size = true
  num : es.size = m
  ris : Ris tb.place.toList
  led : w.params.followText "set-order" = true ∨ tb.led = true
  unl : Unl κ es.toList
/-- the set at a: M its members, m their number -/
def StG (h : Heap) (a : Addr) (M : κt → Bool) (m : Nat) : Prop := ∃ o es ep tb, h.get? a = some o ∧ o.ExactSet ∧ o.data = .set es ep tb ∧ StD κ M m es tb
end
section
variable {P : Program} {w : World} {κt : Type} [DecidableEq κt] {κ : KeyKind P w κt} {A : Around} {E : Value → Shared → Prop} {s : Shared} {a : Addr} {M : κt → Bool} {m : Nat}
theorem StG.at {h h' : Heap} (R : StG κ h a M m) (keep : ∀ o, h.get? a = some o → h'.get? a = some o) : StG κ h' a M m :=
  let ⟨o, es, ep, tb, e, r⟩ := R
  ⟨o, es, ep, tb, keep o e, r⟩
end
end FD
/-! FD: set(x) of what can be walked. -/
namespace FD
open PySem PySem.Spec L2 PyProof.Rows
end FD
/-! FD: set(v), v a text, a list or a tuple of texts. -/
namespace FD
open PySem PySem.Spec L2 PyProof.Rows
end FD
/-! FD: sorted(set(v)), v a text, a list or a tuple of texts; sorted of texts, any number of them. -/
namespace FD
open PySem PySem.Spec L2 PyProof.Rows
end FD
/-! FD: sorted(set(e)), sorted(texts), any number of texts. -/
namespace FD
open PySem PySem.Spec L2 PyProof.Rows
/-! ### sorted(texts), many of them -/
end FD
namespace FD
open PySem L2
end FD
/-! FD: sorted(d), the keys of d texts. -/
namespace FD
open PySem PySem.Spec L2 PyProof.Rows
section
variable {P : Program} {w : World} {A : Around} {E : Value → Shared → Prop} {s : Shared} {κt : Type} [DecidableEq κt] {κ : KeyKind P w κt}
/-- the keys of a dict, gathered: the code -/
theorem keys_code {d : Addr} {kvs : List (κt × Value)} {ep : Nat} {R : Result → Shared → Prop} (lo : (d == sysModules) = false) (hh : A.handled = none) (at0 : s.heap.DictAt κ d kvs ep) (room : kvs.length ≤ sizeLine)
    (fin : ∀ h' tk (acc : Array Value) (c : Nat), (∀ b o, s.heap.get? b = some o → h'.get? b = some o) → h'.get? s.heap.objs.size = some { cls := .type "list", dict := none, data := .seq acc c, slots := #[] } →
      ItemsOf (fun i v => ∃ k x, kvs[i]? = some (k, x) ∧ κ.is k v = true) acc kvs.length → R (.ok (.ret (.ref s.heap.objs.size))) { s with heap := h', toks := tk }) :
    codeAny (model P w) A (.builtin "proto.collect" ⟨[.ref d], []⟩) R s := by
  have lt : d < s.heap.objs.size := at0.lt_size
  have ne : s.heap.objs.size ≠ d := Nat.ne_of_gt lt
  refine codeAny_builtin F.entry_proto_collect ?_; rw [Around.under_plainId F.plain_proto_collect _]; show wpAny _ A.in1 (newList [] >>= fun l => again (.builtin "list.__iadd__" ⟨[l, .ref d], []⟩)) _ _ s
  refine wpAny_bind (wpAny_newObj_type ?_); refine wpAny_pure ⟨plainId_quiet F.plain_list_iadd _, codeAny_builtin F.entry_list_iadd ?_⟩
  rw [Around.under_plainId F.plain_list_iadd _]; show wpAny _ A.in1 (Builtin.List.listExtendWith (.ref s.heap.objs.size) (.ref d) (.ref s.heap.objs.size)) _ _ _
  refine PySem.W.kdl_extend (R := R) (s := { s with heap := s.heap.push { cls := .type "list", data := .seq ([] : List Value).toArray } }) (PySem.W.kdl_dict (knd := κ) (d := d) (kvs := kvs) (ep := ep) lo) hh (at0.push _) _ ne ne _ 0 (Heap.get?_push_size _ rfl) (fun h' tk acc c keep at1 it => ?_) room
  exact fin h' tk acc c (fun b o e => keep b o (Nat.ne_of_lt (Heap.lt_size e)) (Heap.get?_push_of_some _ e)) at1 it
/-- the keys of a dict, gathered -/
theorem collect_keys {d : Addr} {kvs : List (κt × Value)} {ep : Nat} {Q : List Value → Shared → Prop} (lo : (d == sysModules) = false) (hh : A.handled = none) (at0 : s.heap.DictAt κ d kvs ep) (room : kvs.length ≤ sizeLine)
    (fin : ∀ h' tk (acc : Array Value), (∀ b o, s.heap.get? b = some o → h'.get? b = some o) → s.heap.objs.size ≤ h'.objs.size → ItemsOf (fun i v => ∃ k x, kvs[i]? = some (k, x) ∧ κ.is k v = true) acc kvs.length → Q acc.toList { s with heap := h', toks := tk }) :
    wpAny (model P w) A (collect (.ref d)) Q E s := by
  unfold collect
  refine wpAny_bind (wpAny_runValue (keys_code lo hh at0 room fun h' tk acc c keep at1 it => ?_))
  show wpAny _ A (load s.heap.objs.size >>= _) _ _ _
  exact wpAny_bind (wpAny_load at1 (wpAny_pure (fin h' tk acc keep (Nat.le_of_lt (Heap.lt_size at1)) it)))
/-- sorted(v), by what its gathering gives -/
theorem sort_by {v : Value} {xs : List Str} {Q : Value → Shared → Prop}
    (col : ∀ (E' : Value → Shared → Prop) (Q' : List Value → Shared → Prop), (∀ s1 us, (∀ b o, s.heap.get? b = some o → s1.heap.get? b = some o) → s1.gens = s.gens → s1.os = s.os → s.heap.objs.size ≤ s1.heap.objs.size → StrsAre us xs → us.length ≤ sizeLine → Q' us s1) → wpAny (model P w) A.in1 (collect v) Q' E' s)
    (fin : ∀ s' p (out : Array Value) (c : Nat) (ys : List Str), (∀ b o, s.heap.get? b = some o → s'.heap.get? b = some o) → s'.gens = s.gens → s'.os = s.os → s.heap.objs.size ≤ p → s'.heap.get? p = some (seqObj "list" out c) →
      StrsAre out.toList ys → ys.Perm xs → sortedS ys = true → Q (.ref p) s') : wpAny (model P w) A (call (.builtin "sorted") [v]) Q E s := by
  refine Calls.call_function_entry kind_sorted plain_sorted entry_sorted (args_sorted1 _) (?_ : wpAny _ _ _ _ _ _); unfold Builtin.«sorted»
  refine wpAny_bind (m := checkCount "sorted" 1 1 _) (wpAny_pure (wpAny_bind (col _ _ fun s1 us keep g1 o1 zz St small => ?_)))
  refine wpAny_bind (wpAny_newList ?_ small)
  have atL : (s1.heap.push (seqObj "list" us.toArray 0)).get? s1.heap.objs.size = some (seqObj "list" us.toArray 0) := Heap.get?_push_size _ rfl
  refine wpAny_bind (wpAny_holding (wpAny_call_entry slot_list_sort ⟨_, atL, rfl⟩ entry_list_sort (list_sort_treeKAny strKind_oneLt atL St.keysOf (fun v₁ v₂ rest e => keyKind_strs (by rw [← e]; exact St)) small fun st' hp hs => ⟨_, rfl, ?_⟩) (args_list_sort _)))
  obtain ⟨ys, x1, x2, x3⟩ := sorted_out_str St hp hs
  obtain ⟨c, hc⟩ := sortedHeap_at (vs := us) (out := (arrOf st').map (·.2)) atL
  refine wpAny_pure ⟨_, rfl, fin _ s1.heap.objs.size ((arrOf st').map (·.2)) c ys (fun b u e => ?_) g1 o1 zz hc x1 x2 x3⟩
  have q := keep b u e
  have lt := Heap.lt_size q
  show (sortedHeap (s1.heap.push (seqObj "list" us.toArray 0)) s1.heap.objs.size us ((arrOf st').map (·.2))).get? b = some u
  rw [sortedHeap_old (Nat.ne_of_lt lt) (by rw [size_push']; exact Nat.lt_succ_of_lt lt), Heap.get?_push_of_some _ q]
end
/-- texts, key by key -/
theorem strs_keys {P : Program} {w : World} : ∀ {us : List Value} {vs : List (Key × Value)} {xs : List Str}, vs.map (·.1) = xs.map Sum.inr → us.length = vs.length → (∀ (j : Nat) (v : Value), us[j]? = some v → ∃ k x, vs[j]? = some (k, x) ∧ (mixKind P w).is k v = true) → StrsAre us xs
  | [], [], [], _, _, _ => .nil
  | u :: us, (k, x) :: vs, y :: xs, e, l, h => by
    rw [List.map_cons, List.map_cons] at e
    injection e with e1 e2
    obtain ⟨k1, x1, z1, z2⟩ := h 0 u rfl
    cases z1
    dsimp only at e1
    subst e1
    obtain ⟨t, rfl⟩ := Value.isStrOf_shape (x := y) (v := u) z2
    exact .cons y t (strs_keys e2 (Nat.succ.inj l) fun j v hj => h (j + 1) v hj)
  | [], _ :: _, _, _, l, _ => nomatch l
  | _ :: _, [], _, _, l, _ => nomatch l
  | [], [], _ :: _, e, _, _ => nomatch e
  | _ :: _, _ :: _, [], e, _, _ => nomatch e
variable [TabT]
def rSrtDict : List V → Hp → VK → Prop := fun vs H Q => ∃ (a : Addr) (kvs : List (Key × V)) (xs : List Str), vs = [V.ref a] ∧ (Rd H a (.dK kvs) ∨ (Rd H a (.dT []) ∧ kvs = [])) ∧ kvs.map (·.1) = xs.map Sum.inr ∧ ∀ p, H p = none → Q (.ref p) (upd H p (.lst ((srtS xs).map V.str)))
section
variable {X : Cx} {W : WX} {bv : Nat → Option V} {pos : Pos}
theorem kv_keys {kvs : List (Key × V)} {vs : List (Key × Value)} (kv : KV kvs vs) : vs.map (·.1) = kvs.map (·.1) := by
  unfold KV at kv
  induction kv with
  | nil => rfl
  | cons h t ih => rw [List.map_cons, List.map_cons, ih, h.1]
theorem no_keys {h : Heap} {d : Addr} {o : Obj} {es : Array DictEntry} {ep : Nat} (ho : h.get? d = some o) (ex : o.ExactDict) (hd : o.data = .dict es ep) (e : es.toList = []) : h.DictAt (mixKind X.prog X.w) d [] ep := by
  have e0 : es = #[] := by cases es; simp at e; rw [e]
  subst e0
  exact ⟨o, #[], ho, ex, hd, fun _ h => by simp at h, by first | exact .nil | simp [Pairs] | trivial, List.Pairwise.nil⟩
theorem dict_there {pins : List (Addr × Obj)} {σ : L2.St} {H : Hp} {s : Shared} {d : Addr} {kvs : List (Key × V)} (I : Inv X pins σ H s) (h : Rd H d (.dK kvs) ∨ (Rd H d (.dT []) ∧ kvs = [])) :
    (d == sysModules) = false ∧ kvs.length ≤ sizeLine ∧ ∃ (ep : Nat) (vs : List (Key × Value)), vs.map (·.1) = kvs.map (·.1) ∧ s.heap.DictAt (mixKind X.prog X.w) d vs ep := by
  rcases h with h | ⟨h, rfl⟩
  · have z : ObjOk X.prog X.w H s.heap d (.dK kvs) := by
      rcases h with h | ⟨o, h⟩
      · exact I.hok d _ h
      · exact (I.hok d _ h).2
    obtain ⟨z, ns, vs, kv, dd⟩ := z
    obtain ⟨ep, r⟩ := Heap.DictOf.dictAt dd
    exact ⟨ns, z, ep, vs, kv_keys kv, r⟩
  · have z : ObjOk X.prog X.w H s.heap d (.dT []) := by
      rcases h with h | ⟨o, h⟩
      · exact I.hok d _ h
      · exact (I.hok d _ h).2
    obtain ⟨z, ns, xs, pr, o, es, ep, ho, ex, hd, he, _⟩ := z
    cases pr
    exact ⟨ns, Nat.zero_le _, ep, [], rfl, no_keys ho ex hd he⟩
theorem cr_srtDict (hc : X.calm = true) : CallR X (.builtin "sorted") rSrtDict := fun pins s σ H vs us Q I r ⟨d, kvs, xs, ev, hd, ek, q⟩ => by
  subst ev
  obtain ⟨ns, room, ep, ws, kw, at0⟩ := dict_there I hd
  have len : ws.length = kvs.length := by have z := congrArg List.length kw; simpa using z
  rw [Vals.ref1 r]
  refine sort_by (xs := xs) (fun E' Q' go => collect_keys ns (I.ok.hd hc) at0 (by rw [len]; exact room) fun h' tk acc keep zz it => go { s with heap := h', toks := tk } _ keep rfl rfl zz (strs_keys (kw.trans ek) (by rw [Array.length_toList]; exact it.1) fun j v hj => it.2 j v (by rw [← Array.getElem?_toList]; exact hj)) (by rw [Array.length_toList, it.1, len]; exact room)) ?_
  intro s' p out c ys keep g o hp hat hst pm so
  have free : H p = none := I.hok.fresh hp
  have small : (ys.map V.str).length ≤ sizeLine := by
    have z := congrArg List.length ek
    rw [List.length_map, List.length_map] at z
    rw [List.length_map, pm.length_eq, ← z]; exact room
  have J : Inv X pins σ (upd H p (.lst (ys.map V.str))) { s with heap := s'.heap, gens := s'.gens, drawn := s'.drawn, toks := s'.toks } :=
    I.call (ch := []) (Un.laid keep hp free) (I.hok.laid keep hp ⟨small, out.toList, c, vals_of_strs hst, hat⟩) (by rw [g]; exact I.bare) (fun _ z => nomatch z)
  have e2 : s' = { s with heap := s'.heap, gens := s'.gens, drawn := s'.drawn, toks := s'.toks } := by
    clear J
    obtain ⟨_, _, _, _, _⟩ := s'
    cases o; rfl
  rw [e2]; exact ⟨.ref p, _, J, rfl, by rw [srtS_of pm so]; exact q p free⟩
end
end FD
/-! FD: xs.pop(e). -/
namespace FD
variable [TabT]
open PySem L2
theorem OwnL.without {K : PySem.W.Frag} {F H : Hp} {d : D} : ∀ {ms : List M} {vs : List V} {fq : List Addr} {jj : Nat}, OwnL K F H vs ms fq → ms[jj]? = some (.im d) →
    ∃ v, vs[jj]? = some v ∧ Rp K F v d ∧ OwnL K F H (vs.eraseIdx jj) (ms.eraseIdx jj) fq
  | [], _, _, _, .nil, h => by simp at h
  | m :: ms, _, _, 0, .cons (v := v) o t, h => by
    simp at h
    subst h
    cases o with
    | im r => exact ⟨v, rfl, r, t⟩
  | m :: ms, _, _, jj + 1, .cons (v := v) o t, h => by
    obtain ⟨u, h1, h2, h3⟩ := OwnL.without (jj := jj) t (by simpa using h)
    exact ⟨u, by simpa using h1, h2, .cons o h3⟩
def popK (i : Nat) (k : D) : EM D := fun e => match k, e[i]? with
  | .int j, some (some (.ls ms)) => if decide (-(2 ^ 63) ≤ j) && decide (j < 2 ^ 63) then match seqIndex? j ms.length with
    | some jj => match ms[jj]? with
      | some (.im d) => .ok d (e.set i (some (.ls (ms.eraseIdx jj))))
      | _ => .no
    | none => .no
    else .no
  | _, _ => .no
def popA (i : Nat) (f : EM D) : EM D := fun e => if isLs i e then bnd f (fun k => popK i k) e else .no
section
variable {X : Cx} {W : WX} {bv : Nat → Option V} {a : Expr} {fa : EM D} {x : Str} {p px apos : Pos}
theorem popK_some {K : PySem.W.Frag} {e : Env} {σ : L2.St} {F H : Hp} {fp : Nat → List Addr} {i : Nat} {k : D} {Q : VK} (q : AtG K W bv (smp (rD K)) (popK i k) e σ F H fp Q) :
    ∃ ms j jj d, k = .int j ∧ e[i]? = some (some (.ls ms)) ∧ -(2 ^ 63) ≤ j ∧ j < 2 ^ 63 ∧ seqIndex? j ms.length = some jj ∧ ms[jj]? = some (.im d) ∧
      ∀ v F' H' fp', Stp F H (Pf fp) F' H' (Pf fp') → SS K bv (e.set i (some (.ls (ms.eraseIdx jj)))) σ F' H' fp' → Rp K F' v d → Q v H' := by
  unfold AtG popK at q
  cases k with
  | int j =>
    cases he : e[i]? with
    | none => rw [he] at q; exact q.elim
    | some n =>
      cases n with
      | none => rw [he] at q; exact q.elim
      | some n =>
        cases n with
        | ls ms =>
          rw [he] at q
          dsimp only at q
          by_cases hb : (decide (-(2 ^ 63) ≤ j) && decide (j < 2 ^ 63)) = true
          rotate_left
          · rw [if_neg hb] at q; exact q.elim
          rw [if_pos hb] at q
          rw [Bool.and_eq_true, decide_eq_true_eq, decide_eq_true_eq] at hb
          cases hj : seqIndex? j ms.length with
          | none => rw [hj] at q; exact q.elim
          | some jj =>
            rw [hj] at q
            dsimp only at q
            cases hm : ms[jj]? with
            | none => rw [hm] at q; exact q.elim
            | some m =>
              cases m with
              | im d =>
                rw [hm] at q
                exact ⟨ms, j, jj, d, rfl, rfl, hb.1, hb.2, hj, hm, fun v F' H' fp' s S r => q v F' H' fp' _ s S ⟨rfl, r⟩⟩
              | _ => rw [hm] at q; exact q.elim
        | _ => rw [he] at q; exact q.elim
  | _ => exact q.elim
theorem de_popA (i : Nat) (h : DE X W bv a fa) (hN : X.N[i]? = some x := by rfl) (hv : Vis X.env.scope x := by first | exact Or.inl rfl | exact Or.inr (Or.inl rfl) | exact Or.inr (Or.inr rfl)) (hd : (x == ("__debug__" : Str)) = false := by decide) (hcd : (x == ("__classdict__" : Str)) = false := by decide)
    (hbase : attributeBase (.Name x px) "pop" X.env (eval (.Name x px) X.env) = eval (.Name x px) X.env := by rfl)
    (hfew : ((backTo p (starEach [a] X.env)).all (fun x => !x.1) && (backToKw p (keywordEach [] X.env)).all (fun x => x.1.isSome) && decide (([a] : List Expr).length + ([] : List Keyword).length + (if ([] : List Keyword).isEmpty then 0 else 1) < 30)) = true := by rfl)
    (hline : (apos.endLine == p.line) = true := by rfl) (hs : starEach [a] X.env = (false, eval a X.env) :: starEach [] X.env := by rfl) (hpl : (backTo p (starEach [] X.env)).any (·.1) = false := by rfl) :
    DE X W bv (.Call (.Attribute (.Name x px) "pop" apos) [a] [] p) (popA i fa) :=
  pe_imp (pe_bm PySem.F.plainAttrs_list PySem.F.slot_list_pop PySem.F.type_list_pop mt_popAt (pe_var hN hv hd hcd) (pa_cons h pa_nil hs) hbase hfew hline hs hpl) fun σ H Q ⟨e, F, fp, S, q⟩ => by
    unfold AtG popA at q
    by_cases hl : isLs i e = true
    · rw [if_pos hl] at q
      obtain ⟨ms, he⟩ := isLs_at hl
      obtain ⟨a0, vs, fpl, h1, h2, _⟩ := S.lsAt he
      refine ⟨_, h1, .inl ⟨rfl, _, SqL.of h2⟩, ?_⟩
      refine tG.mono (tG.bnd (r := rD X.K) (⟨e, F, fp, S, q⟩ : tG X.K W bv (smp (rD X.K)) (bnd fa fun k => popK i k) σ H Q)) fun v H1 ⟨d, e1, F1, fp1, S1, r1, q1⟩ => ?_
      obtain ⟨ms1, j, jj, d1, ek, he1, b1, b2, hj, hm, q2⟩ := popK_some q1
      subst ek
      cases r1
      obtain ⟨a1, vs1, fpl1, g1, g2, g3, g4, g5⟩ := S1.lsAt he1
      rw [h1] at g1
      cases g1
      obtain ⟨w, w1, w2, w3⟩ := g4.without hm
      refine ⟨_, vs1, j, jj, w, rfl, rfl, g2, b1, b2, by rw [g4.length]; exact hj, w1, ?_⟩
      obtain ⟨S2, s2⟩ := S1.upH (m := .ls (ms1.eraseIdx jj)) (List.getElem?_eq_some_iff.mp he1).1 h1 g3 (.ls upd_same (w3.other g5))
      exact q2 w F1 _ fp1 s2 S2 w2
    · rw [if_neg hl] at q
      exact q.elim
end
end FD
/-! FD: len of an object that an expression makes, frozen. -/
namespace FD
open PySem L2
end FD
/-! FD: > and < of texts. -/
namespace FD
open PySem L2
end FD
/-! FD: for a, b in zip(x, y); what never is entered. -/
namespace FD
open PySem L2
end FD
/-! FD: x = d.setdefault(k, []); if len(x) < n and a < b: x.append(v). -/
namespace FD
open PySem L2
end FD
/-! FD: x = d.setdefault(k, []); if len(x) < n and a < b: x.append(v): the rule. -/
namespace FD
open PySem L2
end FD
/-! FD: a cut of a text, quiet. -/
namespace FD
open PySem L2
end FD
/-! FD: dict of a list of pairs whose keys are tuples. -/
namespace FD
open PySem L2
/-! ### as data -/
end FD
/-! FD: own error classes over any built-in one: made, their field set, raised. -/
namespace FD
open PySem PySem.W PySem.HandSPX PySem.Calls PyProof.Rows
end FD
/-! FD: own error classes over any built-in one: the __init__ walked, raise. -/
namespace FD
open PySem L2
end FD
/-! FD: what the head says of such error classes. -/
namespace FD
open PySem L2
end FD
/-! FD: isinstance of a kept error. -/
namespace FD
variable [TabT]
open PySem L2
/-- isinstance(e, ..), e a kept error: m tells of its class -/
def isxE (i : Nat) (m : Str → Option Bool) : EM D := fun e => match e[i]? with
  | some (some (.xc C (p :: fs))) => (match m C with
    | some b => .ok (.bool b) e
    | none => .no)
  | _ => .no
end FD
/-! FD: try .. except (C1, C2, C3, C4) as n: the error stays known behind the suite. -/
namespace FD
open PySem L2
end FD
/-! FD: try with a clause of four classes; what the head says. -/
namespace FD
open PySem L2
end FD
/-! FD: what the head says of kept errors' classes, by what can be asked of it. -/
namespace FD
open PySem L2
end FD
/-! FD: == and != of things up to 190 deep. -/
namespace FD
open PySem L2
end FD
/-! FD: == and != of dicts of numbers and texts that hold the same. -/
namespace FD
open PySem L2
end FD
/-! FD: list(d.values()), list(d), list(d.items()). -/
namespace FD
open PySem L2
end FD
/-! FD: list(d.values()), list(d.items()), list(d) as data; dict(pairs) to own, a key told again holds the later value. -/
namespace FD
variable [TabT]
open PySem L2
def keysLD (d : D) : Option D := match d with
  | .dict kvs => (dictK kvs).map fun _ => .list (kvs.map (·.1))
  | _ => none
section
variable {X : Cx} {W : WX} {bv : Nat → Option V} {pos p apos cpos px : Pos} {a : Expr} {fa : EM D} {x : Str}
/-- list(x), x an owned dict -/
def pkListK (i : Nat) : EM D := chk i (pk i keysLD)
end
end FD
/-! FD: dict(pairs) to own: a key told again holds the later value. -/
namespace FD
variable [TabT]
open PySem L2
def putD (l : List (Key × D)) (k : Key) (v : D) : List (Key × D) :=
  if (l.any fun kv => decide (kv.1 = k)) = true then l.map (fun kv => if kv.1 = k then (kv.1, v) else kv) else l ++ [(k, v)]
def mrgD (l more : List (Key × D)) : List (Key × D) := more.foldl (fun acc kv => putD acc kv.1 kv.2) l
def PrD (K : PySem.W.Frag) (F : Hp) : List (Key × V) → List (Key × D) → Prop := Paired fun p q => p.1 = q.1 ∧ Rp K F p.2 q.2
theorem PrD.of {K : PySem.W.Frag} {F : Hp} : ∀ {kvs : List (Key × V)} {kds : List (Key × D)}, kvs.map (·.1) = kds.map (·.1) → RpL K F (kvs.map (·.2)) (kds.map (·.2)) → PrD K F kvs kds
  | [], [], _, _ => .nil
  | [], _ :: _, h, _ => by cases h
  | _ :: _, [], h, _ => by cases h
  | p :: kvs, q :: kds, h, r => by
    simp only [List.map_cons, List.cons.injEq] at h
    cases r with
    | cons r1 r2 => exact .cons ⟨h.1, r1⟩ (PrD.of h.2 r2)
theorem PrD.keys {K : PySem.W.Frag} {F : Hp} {kvs : List (Key × V)} {kds : List (Key × D)} (h : PrD K F kvs kds) : kvs.map (·.1) = kds.map (·.1) := by
  unfold PrD at h
  induction h with
  | nil => rfl
  | cons h t ih => rw [List.map_cons, List.map_cons, h.1, ih]
theorem PrD.upd {K : PySem.W.Frag} {F : Hp} {k : Key} {v : V} {d : D} (r : Rp K F v d) {kvs : List (Key × V)} {kds : List (Key × D)} (h : PrD K F kvs kds) : PrD K F (kvs.map fun kv => if kv.1 = k then (kv.1, v) else kv) (kds.map fun kv => if kv.1 = k then (kv.1, d) else kv) := by
  unfold PrD at h ⊢
  induction h with
  | nil => exact .nil
  | @cons p q ps qs h t ih =>
    rw [List.map_cons, List.map_cons]
    refine .cons ?_ ih
    by_cases e : p.1 = k
    · rw [if_pos e, if_pos (h.1 ▸ e)]
      exact ⟨h.1, r⟩
    · rw [if_neg e, if_neg (fun z => e (h.1 ▸ z))]
      exact h
theorem PrD.snoc {K : PySem.W.Frag} {F : Hp} {k : Key} {v : V} {d : D} (r : Rp K F v d) {kvs : List (Key × V)} {kds : List (Key × D)} (h : PrD K F kvs kds) : PrD K F (kvs ++ [(k, v)]) (kds ++ [(k, d)]) := by
  unfold PrD at h ⊢
  induction h with
  | nil => exact .cons ⟨rfl, r⟩ .nil
  | cons h t ih => exact .cons h ih
theorem PrD.put {K : PySem.W.Frag} {F : Hp} {kvs : List (Key × V)} {kds : List (Key × D)} {k : Key} {v : V} {d : D} (h : PrD K F kvs kds) (r : Rp K F v d) : PrD K F (putK kvs k v) (putD kds k d) := by
  have hk := h.keys
  have ha : (kvs.any fun kv => decide (kv.1 = k)) = (kds.any fun kv => decide (kv.1 = k)) := by
    have e1 : ∀ l : List (Key × V), (l.any fun kv => decide (kv.1 = k)) = ((l.map (·.1)).any fun x => decide (x = k)) := fun l => by rw [List.any_map]; rfl
    have e2 : ∀ l : List (Key × D), (l.any fun kv => decide (kv.1 = k)) = ((l.map (·.1)).any fun x => decide (x = k)) := fun l => by rw [List.any_map]; rfl
    rw [e1, e2, hk]
  unfold putK putD
  rw [ha]
  split
  · exact h.upd r
  · exact h.snoc r
def dcO (f : EM D) : EM M := bnd f fun d => match d with
  | .list ds => match pairsD ds with
    | some kds => FD.ret (.dk ((mrgD [] kds).map fun p => (p.1, .im p.2)))
    | none => fun _ => .no
  | _ => fun _ => .no
end FD
/-! FD: pairs of two texts' signs, for a dict. -/
namespace FD
open PySem
end FD
/-! FD: dict(zip(a, b)) of two texts. -/
namespace FD
variable [TabT]
open PySem L2
def chs (x : Str) : List Str := x.cps.toList.map fun c => ⟨#[c]⟩
def zipKD (x y : Str) : List (Key × D) := ((chs x).zip (chs y)).map fun p => (.inr p.1, .str p.2)
end FD
/-! FD: many new things at once; list(d.items()). -/
namespace FD
open PySem L2
end FD
/-! FD: three plain names stored at once. -/
namespace FD
open PySem L2
section
variable [TabT] {X : Cx} {W : WX} {bv : Nat → Option V} {pos : Pos} {a b c : Expr} {fs : EM (List D)}
theorem par3_at {K : PySem.W.Frag} {En : Ends} {σ : L2.St} {F H : Hp} {fp : Nat → List Addr} {e : Env} {i j l : Nat} {vs : List V} {ds : List D} (hi : bv i = none) (hj : bv j = none) (hl : bv l = none) (S : SS K bv e σ F H fp) (r : RpL K F vs ds)
    (q : AtS K W bv (goS (gsCons (gN i) (gsCons (gN j) (gsCons (gN l) gsNil)) ds)) e σ F H fp En) : ∃ u v w, vs = [u, v, w] ∧ En.nx (((σ.set i (some u)).set j (some v)).set l (some w)) H := by
  have q := goS_at q (nx_cons (nx_name i) (nx_cons (nx_name j) (nx_cons (nx_name l) nx_nil)) ds e)
  cases z : gsCons (gN i) (gsCons (gN j) (gsCons (gN l) gsNil)) ds e with
  | no => rw [z] at q; exact q.elim
  | ex _ _ _ => rw [z] at q; exact q.elim
  | ok _ e' =>
    rw [z] at q
    cases r with
    | nil => cases z
    | cons r1 r =>
      cases r with
      | nil => obtain ⟨_, _, _, z2⟩ := bnd_ok z; cases z2
      | cons r2 r =>
        cases r with
        | nil =>
          obtain ⟨_, _, _, z2⟩ := bnd_ok z
          obtain ⟨_, _, _, z3⟩ := bnd_ok z2
          cases z3
        | cons r3 r =>
          cases r with
          | cons _ _ =>
            obtain ⟨_, _, _, z2⟩ := bnd_ok z
            obtain ⟨_, _, _, z3⟩ := bnd_ok z2
            obtain ⟨_, _, _, z4⟩ := bnd_ok z3
            cases z4
          | nil =>
            obtain ⟨_, e1, y1, z2⟩ := bnd_ok z
            obtain ⟨_, e2, y2, z3⟩ := bnd_ok z2
            obtain ⟨_, e3, y3, z4⟩ := bnd_ok z3
            cases z4
            obtain ⟨fp1, s1, S1⟩ := gN_at hi S r1 y1
            obtain ⟨fp2, s2, S2⟩ := gN_at hj S1 r2 y2
            obtain ⟨fp3, s3, S3⟩ := gN_at hl S2 r3 y3
            exact ⟨_, _, _, rfl, q _ _ _ fp3 ((s1.trans s2).trans s3) S3⟩
theorem ds_par3 (i j l : Nat) {x y z : Str} {px py pz pt : Pos} {kt k2 pt2} (hN : X.N.Nodup) (ha : DA X W bv [a, b, c] fs) (hc : X.calm = true := by rfl) (hi : X.N[i]? = some x := by rfl) (hj : X.N[j]? = some y := by rfl) (hl : X.N[l]? = some z := by rfl) (hij : i ≠ j := by decide) (hil : i ≠ l := by decide) (hjl : j ≠ l := by decide)
    (hx : X.env.scope.names.lookup x = some .local := by rfl) (hy : X.env.scope.names.lookup y = some .local := by rfl) (hz : X.env.scope.names.lookup z = some .local := by rfl) (hbi : bv i = none := by rfl) (hbj : bv j = none := by rfl) (hbl : bv l = none := by rfl)
    (hw : swappedStores [.Tuple [.Name x px, .Name y py, .Name z pz] kt pt] (.Tuple [a, b, c] k2 pt2) X.env = pure (some [x, y, z]) := by rfl)
    (hs : swapsWithSole [.Tuple [.Name x px, .Name y py, .Name z pz] kt pt] (.Tuple [a, b, c] k2 pt2) pos.line X.env = pure false := by rfl) :
    DS X W bv (.Assign [.Tuple [.Name x px, .Name y py, .Name z pz] kt pt] (.Tuple [a, b, c] k2 pt2) pos) (parS fs (gsCons (gN i) (gsCons (gN j) (gsCons (gN l) gsNil)))) :=
  ps_imp (ps_par3 hc hN hi hj hl hij hil hjl hx hy hz ha hw hs) fun D σ H ⟨e, F, fp, S, q⟩ =>
    tG.mono (AtS.bnd' (r := rL X.K) S q) fun vs H1 ⟨ds, e1, F1, fp1, _, _, S1, r1, q1⟩ => par3_at hbi hbj hbl S1 r1 q1
end
end FD
/-! FD: text.strip(signs). -/
namespace FD
open PySem L2
end FD
/-! FD: sorted({e for x in xs if ..}) of texts. The set under way is no tracked thing: it is pinned while a turn runs. -/
namespace FD
open PySem PySem.Spec L2 PyProof.Rows PpSet
end FD
/-! FD: sorted({e for x in xs if ..}) as a denotation: the texts, sorted, each once. -/
namespace FD
open PySem PySem.Spec L2 PyProof.Rows PpSet
end FD
/-! FD: {key: value for x in xs if ..}, the keys tuples of numbers and texts. -/
namespace FD
open PySem PySem.Spec L2 PyProof.Rows
end FD
/-! FD: {key: value for x in xs if ..} as a denotation, the keys tuples. -/
namespace FD
open PySem PySem.Spec L2 PyProof.Rows
def dTD (l : List (List Key × D)) : D := .dict (l.map fun q => (.tuple (q.1.map keyD), q.2))
section
variable [TabT] {κ : Type} [DecidableEq κ] {K : PySem.W.Frag} {F : Hp}
theorem put_any {k : κ} {v : V} {d : D} (r : Rp K F v d) : ∀ {kvs : List (κ × V)} {kds : List (κ × D)}, kvs.map (·.1) = kds.map (·.1) → RpL K F (kvs.map (·.2)) (kds.map (·.2)) →
    (kvs.map fun kv => if kv.1 = k then (kv.1, v) else kv).map (·.1) = (kds.map fun kv => if kv.1 = k then (kv.1, d) else kv).map (·.1) ∧ RpL K F ((kvs.map fun kv => if kv.1 = k then (kv.1, v) else kv).map (·.2)) ((kds.map fun kv => if kv.1 = k then (kv.1, d) else kv).map (·.2))
  | [], [], _, _ => ⟨rfl, .nil⟩
  | [], _ :: _, h, _ => by cases h
  | _ :: _, [], h, _ => by cases h
  | p :: kvs, q :: kds, h, g => by
    simp only [List.map_cons, List.cons.injEq] at h
    cases g with
    | cons g1 g2 =>
      obtain ⟨i1, i2⟩ := put_any r h.2 g2
      simp only [List.map_cons]
      by_cases e : p.1 = k
      · rw [if_pos e, if_pos (h.1 ▸ e)]
        exact ⟨by rw [i1, h.1], .cons r i2⟩
      · rw [if_neg e, if_neg (fun z => e (h.1 ▸ z))]
        exact ⟨by rw [i1, h.1], .cons g1 i2⟩
theorem put_prs {k : κ} {v : V} {d : D} {kvs : List (κ × V)} {kds : List (κ × D)} (r : Rp K F v d) (h : kvs.map (·.1) = kds.map (·.1)) (g : RpL K F (kvs.map (·.2)) (kds.map (·.2))) :
    (putK kvs k v).map (·.1) = (putKK kds k d).map (·.1) ∧ RpL K F ((putK kvs k v).map (·.2)) ((putKK kds k d).map (·.2)) := by
  unfold putK putKK
  rw [keys_any h]
  split
  · exact put_any r h g
  · rw [List.map_append, List.map_append, List.map_append, List.map_append, h]
    exact ⟨rfl, g.append (.cons r .nil)⟩
end
section
variable [TabT] {K : PySem.W.Frag} {W : WX} {bv : Nat → Option V} {σ : L2.St}
/-- a dict comprehension under way: A the new dict -/
structure CD (K : PySem.W.Frag) (bv : Nat → Option V) (e : Env) (σ : L2.St) (F H : Hp) (fp : Nat → List Addr) (A : Addr) (kds : List (List Key × D)) : Prop where
  ss : SS K bv e σ F H fp
  li : ∃ kvs, H A = some (.dT kvs) ∧ kvs.map (·.1) = kds.map (·.1) ∧ RpL K F (kvs.map (·.2)) (kds.map (·.2))
  nf : F A = none
  np : ¬ Pf fp A
theorem CD.step {e e' : Env} {σ' : L2.St} {F H F' H' : Hp} {fp fp' : Nat → List Addr} {A : Addr} {ys : List (List Key × D)} (C : CD K bv e σ F H fp A ys) (s : Stp F H (Pf fp) F' H' (Pf fp')) (S' : SS K bv e' σ' F' H' fp') : CD K bv e' σ' F' H' fp' A ys := by
  obtain ⟨kvs, h1, h2, h3⟩ := C.li
  refine ⟨S', ⟨kvs, s.keep A _ h1 C.np (.inl C.nf) (fun _ z => by cases z), h2, h3.mono s.ext⟩, ?_, fun z => ?_⟩
  · cases q : F' A with
    | none => rfl
    | some o =>
      rcases s.newF A (by rw [q]; simp) with z | z | z
      · exact absurd C.nf z
      · exact absurd z C.np
      · obtain ⟨_, z⟩ := z _ h1; exact (fx_dt z).elim
  · rcases s.newP A z with z | z
    · exact C.np z
    · rw [h1] at z; cases z
theorem CD.put {e : Env} {F H : Hp} {fp : Nat → List Addr} {A : Addr} {ys : List (List Key × D)} {kvs : List (List Key × V)} {k : List Key} {v : V} {y : D} (C : CD K bv e σ F H fp A ys) (h1 : H A = some (.dT kvs)) (h2 : kvs.map (·.1) = ys.map (·.1)) (h3 : RpL K F (kvs.map (·.2)) (ys.map (·.2))) (r : Rp K F v y) :
    CD K bv e σ F (upd H A (.dT (putK kvs k v))) fp A (putKK ys k y) where
  ss := C.ss.heap (Sub.refl F) (C.ss.sub.mut C.nf) (fun i a o h q => by
    rw [upd_ne fun z => C.np (by rw [← z]; exact ⟨i, h⟩)]
    exact q) C.ss.fr (tabs_upd C.ss.tab h1 (fun _ z => by cases z) (fun _ z => by cases z))
  li := ⟨_, upd_same, (put_prs r h2 h3).1, (put_prs r h2 h3).2⟩
  nf := C.nf
  np := C.np
theorem CD.done {e : Env} {F H F0 H0 : Hp} {fp fp0 : Nat → List Addr} {A : Addr} {ys : List (List Key × D)} (C : CD K bv e σ F H fp A ys) (s : Stp F0 H0 (Pf fp0) F H (Pf fp)) (h0 : H0 A = none) :
    ∃ F', Stp F0 H0 (Pf fp0) F' H (Pf fp) ∧ SS K bv e σ F' H fp ∧ Rp K F' (.ref A) (dTD ys) := by
  obtain ⟨kvs, h1, h2, h3⟩ := C.li
  have sF : Sub F (upd F A (.dT kvs)) := Sub.new C.nf
  have sH : Sub (upd F A (.dT kvs)) H := by
    refine ⟨fun a u t r => ?_, fun a u x q => ?_, fun a q => ?_⟩
    · by_cases n : a = A
      · subst n
        exact rd_at (by rw [upd_same, h1]) r
      · exact C.ss.sub.rdN a u t (rd_at (upd_ne n).symm r)
    · by_cases n : a = A
      · subst n
        rw [upd_same] at q
        rw [h1]; exact q
      · rw [upd_ne n] at q
        exact C.ss.sub.ex a u x q
    · by_cases n : a = A
      · subst n; rw [h1] at q; cases q
      · rw [upd_ne n]; exact C.ss.sub.nn a q
  refine ⟨upd F A (.dT kvs), ⟨s.ext.trans sF, s.keep, s.live, s.tbl, fun a q => ?_, s.newP⟩, C.ss.heap sF sH (fun _ _ _ _ q => q) (fun i a q => ?_) C.ss.tab, .dT (.inl upd_same) h2 (h3.mono sF)⟩
  · by_cases n : a = A
    · subst n; exact .inr (.inr (nw_of h0))
    · rw [upd_ne n] at q; exact s.newF a q
  · rw [upd_ne fun z => C.np (by rw [← z]; exact ⟨i, q⟩)]
    exact C.ss.fr i a q
end
end FD
/-! FD: a tuple from behind. -/
namespace FD
open PySem PySem.Spec L2 PyProof.Rows HT
end FD
/-! FD: tables of the module: tuples and dicts with text keys. -/
namespace FD
variable [TabT]
open PySem PySem.Spec L2 PyProof.Rows
/-! ### tuples of the module, in slots of their own -/
def ktAt : Option (Option M) → Option (List D)
  | some (some (.kt ds)) => some ds
  | some (some (.im (.tuple ds))) => some ds
  | _ => none
/-- enumerate over such a slot, or one that holds a tuple -/
def enK (i : Nat) : EM (List D) := fun e => match ktAt e[i]? with
  | some ds => .ok (enumDs ds) e
  | none => .no
def lenK (i : Nat) : EM D := fun e => match ktAt e[i]? with
  | some ds => .ok (.int (ds.length : Nat)) e
  | none => .no
/-! ### what the head says of a table -/
def tabL (asks : List (Str × Option M)) : D → Option (Option M)
  | .str z => asks.lookup z
  | _ => none
def tabIx (asks : List (Str × Option M)) (fe : EM D) : EM M := bnd fe fun d => lif ((tabL asks d).bind id)
end FD
/-! FD: str(x), int(text), text.split(sep). -/
namespace FD
variable [TabT]
open PySem PySem.Spec L2 PyProof.Rows
section
variable {X : Cx} {W : WX} {bv : Nat → Option V} {pos apos : Pos} {a b : Expr} {fa fb : EM D}
def splitD (x : Str) (d : D) : Option D := match d with
  | .str y => if x.length ≤ 1000000 ∧ y.length ≠ 0 then some (.list ((Txt.split x y).map PyData.str)) else none
  | _ => none
def splitE (fa fb : EM D) : EM D := bnd fa fun d => match d with
  | .str x => bnd fb fun y => lif (splitD x y)
  | _ => fun _ => .no
end
end FD
/-! FD: list(zip(a, b)) of two texts. -/
namespace FD
open PySem
end FD
/-! FD: list(zip(a, b)) of two texts, as a denotation. -/
namespace FD
variable [TabT]
open PySem L2
section
variable {X : Cx} {e e2 : Expr} {ta : TA} {p p2 pos pos2 : Pos}
def zipLD (x y : Str) : List D := ((chs x).zip (chs y)).map fun p => .tuple [.str p.1, .str p.2]
def lzE (fs : EM (List D)) : EM D := bnd fs fun ds => match ds with
  | [.str x, .str y] => if decide (x.cps.size ≤ 100000) then FD.ret (.list (zipLD x y)) else fun _ => .no
  | _ => fun _ => .no
variable {W : WX} {bv : Nat → Option V} {fs : EM (List D)}
end
end FD
/-! FD: list(zip(a, b)) of two lists, as a denotation. -/
namespace FD
variable [TabT]
open PySem L2
theorem vals_get : ∀ {xs : List V} {us : List Value} {j : Nat} {u : Value}, Vals xs us → us[j]? = some u → ∃ x, xs[j]? = some x ∧ RelV x u
  | _, _, _, _, .nil, h => by simp at h
  | _, _, 0, _, .cons r t, h => by cases h; exact ⟨_, rfl, r⟩
  | _, _, j + 1, _, .cons r t, h => by
    obtain ⟨x, a, b⟩ := vals_get (j := j) t (by simpa using h)
    exact ⟨x, by simpa using a, b⟩
end FD
/-! FD: an owned dict walked by a comprehension: locked meanwhile, and owned again. -/
namespace FD
variable [TabT]
open PySem L2
def dkD (kds : List (Key × D)) : D := .dict (kds.map fun p => (keyD p.1, p.2))
/-- slot i holds a dict that is locked: the slot is out of sight of what is owned; e tells what may be seen -/
structure SV (K : PySem.W.Frag) (bv : Nat → Option V) (i : Nat) (d : Addr) (od : Obj) (kvs : List (Key × V)) (kds : List (Key × D)) (e : Env) (σ : L2.St) (F H : Hp) (fp : Nat → List Addr) : Prop where
  ss : SS K bv (e.set i (some .gone)) σ F H fp
  at_ : e[i]? = some (some (.im (dkD kds)))
  lk : H d = some (.frz od (.dK kvs))
  ks : kvs.map (·.1) = kds.map (·.1)
  rs : RpL K F (kvs.map (·.2)) (kds.map (·.2))
  nf : F d = none
  np : ¬ Pf fp d
  sl : σ[i]? = some (some (.ref d))
theorem nt_frz {od : Obj} {u : HO} : Nt (.frz od u) := fun _ z => by cases z
theorem fx_frz' {od : Obj} {u : HO} {w} : HO.frz od u ≠ fxO w := fun z => by cases w <;> exact nomatch z
section
variable {K : PySem.W.Frag} {W : WX} {bv : Nat → Option V} {i : Nat} {d : Addr} {od : Obj} {kvs : List (Key × V)} {kds : List (Key × D)} {e e' : Env} {σ σ' : L2.St} {F H F' H' : Hp} {fp fp' : Nat → List Addr}
theorem SV.lt (V : SV K bv i d od kvs kds e σ F H fp) : i < e.length := (List.getElem?_eq_some_iff.mp V.at_).1
theorem SV.step (V : SV K bv i d od kvs kds e σ F H fp) (s : Stp F H (Pf fp) F' H' (Pf fp')) (S' : SS K bv (e'.set i (some .gone)) σ' F' H' fp') (ha : e'[i]? = e[i]?) (hs : σ'[i]? = σ[i]?) : SV K bv i d od kvs kds e' σ' F' H' fp' := by
  refine ⟨S', ha.trans V.at_, s.keep d _ V.lk V.np (.inl V.nf) nt_frz, V.ks, V.rs.mono s.ext, ?_, fun z => ?_, hs.trans V.sl⟩
  · cases q : F' d with
    | none => rfl
    | some o =>
      rcases s.newF d (by rw [q]; simp) with z | z | z
      · exact absurd V.nf z
      · exact absurd z V.np
      · obtain ⟨_, z⟩ := z _ V.lk; exact (fx_frz' z).elim
  · rcases s.newP d z with z | z
    · exact V.np z
    · rw [V.lk] at z; cases z
end
end FD
/-! FD: an owned dict walked by a comprehension: the walk. -/
namespace FD
variable [TabT]
open PySem L2
structure CV (K : PySem.W.Frag) (bv : Nat → Option V) (i : Nat) (d : Addr) (od : Obj) (kvs : List (Key × V)) (kds : List (Key × D)) (e : Env) (σ : L2.St) (F H : Hp) (fp : Nat → List Addr) (A : Addr) (ys : List D) : Prop where
  sv : SV K bv i d od kvs kds e σ F H fp
  li : ∃ acc, H A = some (.lst acc) ∧ RpL K F acc ys
  nf : F A = none
  np : ¬ Pf fp A
  ne : A ≠ d
section
variable {K : PySem.W.Frag} {W : WX} {bv : Nat → Option V} {i j : Nat} {d : Addr} {od : Obj} {kvs : List (Key × V)} {kds : List (Key × D)} {e e' : Env} {σ σ' : L2.St} {F H F' H' : Hp} {fp fp' : Nat → List Addr} {A : Addr} {ys : List D}
theorem CV.step (C : CV K bv i d od kvs kds e σ F H fp A ys) (s : Stp F H (Pf fp) F' H' (Pf fp')) (V' : SV K bv i d od kvs kds e' σ' F' H' fp') : CV K bv i d od kvs kds e' σ' F' H' fp' A ys := by
  obtain ⟨acc, h1, h2⟩ := C.li
  refine ⟨V', ⟨acc, s.keep A _ h1 C.np (.inl C.nf) (nt_lst _), h2.mono s.ext⟩, ?_, fun z => ?_, C.ne⟩
  · cases q : F' A with
    | none => rfl
    | some o =>
      rcases s.newF A (by rw [q]; simp) with z | z | z
      · exact absurd C.nf z
      · exact absurd z C.np
      · obtain ⟨_, z⟩ := z _ h1; exact (fx_lst z).elim
  · rcases s.newP A z with z | z
    · exact C.np z
    · rw [h1] at z; cases z
theorem CV.app {acc : List V} {v : V} {y : D} (C : CV K bv i d od kvs kds e σ F H fp A ys) (h1 : H A = some (.lst acc)) (h2 : RpL K F acc ys) (r : Rp K F v y) : CV K bv i d od kvs kds e σ F (upd H A (.lst (acc ++ [v]))) fp A (ys ++ [y]) where
  sv := ⟨C.sv.ss.heap (Sub.refl F) (C.sv.ss.sub.mut C.nf) (fun n a o h q => by
      rw [upd_ne fun z => C.np (by rw [← z]; exact ⟨n, h⟩)]
      exact q) C.sv.ss.fr (tabs_upd C.sv.ss.tab h1 (fun _ z => by cases z) (fun _ z => by cases z)), C.sv.at_, by rw [upd_ne C.ne.symm]; exact C.sv.lk, C.sv.ks, C.sv.rs, C.sv.nf, C.sv.np, C.sv.sl⟩
  li := ⟨_, upd_same, h2.append (.cons r .nil)⟩
  nf := C.nf
  np := C.np
  ne := C.ne
theorem wipeE1 (e : Env) (j : Nat) : wipeE e [j] = e.set j none := rfl
theorem SV.wipe (hij : j ≠ i) (V : SV K bv i d od kvs kds e σ F H fp) (h : [j].all (imAt e) = true) (hb : [j].all (fun n => (bv n).isNone) = true) : SV K bv i d od kvs kds (wipeE e [j]) (L2.wipe σ [j]) F H fp := by
  have ni : i ∉ [j] := fun z => hij (List.mem_singleton.mp z).symm
  have h' : [j].all (imAt (e.set i (some .gone))) = true := by
    have : imAt (e.set i (some .gone)) j = imAt e j := by unfold imAt; rw [List.getElem?_set_ne (Ne.symm hij)]
    simpa [this] using h
  have S := V.ss.wipe h' hb
  rw [wipeE1, List.set_comm _ _ (Ne.symm hij), ← wipeE1] at S
  refine ⟨S, by rw [wipeE_out ni]; exact V.at_, V.lk, V.ks, V.rs, V.nf, V.np, by rw [wipe_out ni]; exact V.sl⟩
end
end FD
/-! FD: {n: value}, n a number. -/
namespace FD
open PySem L2
end FD
/-! FD: tuples in their order: <, min. -/
namespace FD
variable [TabT]
open PySem L2
mutual
theorem rp_reads {X : Cx} {pins : List (Addr × Obj)} {σ : L2.St} {H : Hp} {s : Shared} (I : Inv X pins σ H s) : ∀ {v : V} {d : D}, Rp X.K H v d → tupD d = true → ∀ {u : Value}, RelV v u → Reads s.heap u d []
  | _, _, .non, _, u, r => by cases (show u = Value.none from r); exact .none
  | _, _, .bl b, _, u, r => by cases (show u = Value.bool b from r); exact .bool b
  | _, _, .int i, _, u, r => by obtain ⟨t, rfl⟩ := r; exact .int i t
  | _, _, .str x, _, u, r => by obtain ⟨t, rfl⟩ := r; exact .str x t
  | _, _, .lst _ _, h, _, _ => by simp [tupD] at h
  | _, _, .dK _ _ _, h, _, _ => by simp [tupD] at h
  | _, _, .dT _ _ _, h, _, _ => by simp [tupD] at h
  | _, _, .kt _ _ _, h, _, _ => by simp [ktD, tupD] at h
  | _, _, .opq _, h, _, _ => by simp [opqK, tupD] at h
  | _, _, .fn _, h, _, _ => by simp [fnK, tupD] at h
  | _, _, @Rp.tup _ _ a vs ds ht r, h, u, rv => by
    cases (show u = Value.ref a from rv)
    obtain ⟨_, its, rr, o, h1, h2, n, h3⟩ := (show ObjOk X.prog X.w H s.heap a (.tup vs) from I.hok a _ ht)
    exact .tuple h1 h2 h3 (rpl_reads I r (by simpa [tupD] using h) (by simpa using rr))
theorem rpl_reads {X : Cx} {pins : List (Addr × Obj)} {σ : L2.St} {H : Hp} {s : Shared} (I : Inv X pins σ H s) : ∀ {vs : List V} {ds : List D}, RpL X.K H vs ds → tupDs ds = true → ∀ {us : List Value}, Vals vs us → ReadsAll s.heap us ds []
  | _, _, .nil, _, _, .nil => .nil
  | _, _, .cons a b, h, _, .cons c d => by
    simp only [tupDs, Bool.and_eq_true] at h
    exact ReadsAll.cons (as := []) (bs := []) (rp_reads I a h.1 c) (rpl_reads I b h.2 d)
end
mutual
theorem reads_one {h : Heap} : ∀ {v : Value} {d d' : D} {as bs : List Addr}, Reads h v d as → tupD d = true → Reads h v d' bs → d' = d
  | _, _, _, _, _, .none, _, r => by cases r; rfl
  | _, _, _, _, _, .bool b, _, r => by cases r; rfl
  | _, _, _, _, _, .int i t, _, r => by cases r; rfl
  | _, _, _, _, _, .str x t, _, r => by cases r; rfl
  | _, _, _, _, _, .list _ _ _ _, h, _ => by simp [tupD] at h
  | _, _, _, _, _, .dict _ _ _ _ _, h, _ => by simp [tupD] at h
  | _, _, _, _, _, .tuple h1 h2 h3 r, h, q => by
    cases q with
    | list k1 k2 _ _ => rw [h1] at k1; cases k1; exact absurd (h2.symm.trans k2) (by decide)
    | dict k1 k2 _ _ _ => rw [h1] at k1; cases k1; exact absurd (h2.symm.trans k2) (by decide)
    | tuple k1 k2 k3 r' =>
      rw [h1] at k1; cases k1
      rw [h3] at k3; cases k3
      rw [reads_all_one r (by simpa [tupD] using h) r']
theorem reads_all_one {h : Heap} : ∀ {vs : List Value} {ds ds' : List D} {as bs : List Addr}, ReadsAll h vs ds as → tupDs ds = true → ReadsAll h vs ds' bs → ds' = ds
  | _, _, _, _, _, .nil, _, r => by cases r; rfl
  | _, _, _, _, _, .cons a b, h, q => by
    simp only [tupDs, Bool.and_eq_true] at h
    cases q with
    | cons a' b' => rw [reads_one a h.1 a', reads_all_one b h.2 b']
end
def nnD : D → Bool
  | .none => false
  | _ => true
theorem nn_of {d : D} (h : nnD d = true) : d ≠ .none := fun z => by rw [z] at h; cases h
section
variable {X : Cx}
def mnOk (ds : List D) : Bool := tupDs ds && (ds.all (fun a => ds.all fun b => PySem.W.alike a b) && (ds.all nnD && decide (PyData.depthAll ds ≤ 8)))
def minW : List D → Option D
  | [.list (x :: xs)] => if mnOk (x :: xs) then some (PySem.W.minD x xs) else none
  | _ => none
def rMinW (K : PySem.W.Frag) : List V → Hp → VK → Prop := fun vs H Q => ∃ a us x xs, vs = [.ref a] ∧ SqL K H a us ∧ RpL K H us (x :: xs) ∧ mnOk (x :: xs) = true ∧ ∀ (i : Nat) u, us[i]? = some u → (x :: xs)[i]? = some (PySem.W.minD x xs) → Q u H
theorem rpl_at {K : PySem.W.Frag} {F : Hp} : ∀ {vs : List V} {ds : List D} {i : Nat} {v : V}, RpL K F vs ds → vs[i]? = some v → ∃ d, ds[i]? = some d ∧ Rp K F v d
  | _, _, _, _, .nil, h => by simp at h
  | _, _, 0, _, .cons r t, h => by cases h; exact ⟨_, rfl, r⟩
  | _, _, i + 1, _, .cons r t, h => by
    obtain ⟨d, a, b⟩ := rpl_at (i := i) t (by simpa using h)
    exact ⟨d, by simpa using a, b⟩
theorem tup_at {ds : List D} (h : tupDs ds = true) : ∀ d ∈ ds, tupD d = true := by
  induction ds with
  | nil => intro d hd; cases hd
  | cons a ds ih =>
    simp only [tupDs, Bool.and_eq_true] at h
    intro d hd
    rcases List.mem_cons.mp hd with z | z
    · rw [z]; exact h.1
    · exact ih h.2 d z
theorem cr_minW {k : Nat} (hr : Room k X.A) (hc : X.calm = true) : CallR X (.builtin "min") (rMinW X.K) := by
  intro pins s σ H vs us Q I r ⟨a, ws, x, xs, e, hs, rl, hok, q⟩
  subst e
  obtain ⟨its, rv, hl, _⟩ := I.list hs
  rw [Vals.ref1 r]
  unfold mnOk at hok
  simp only [Bool.and_eq_true, decide_eq_true_eq] at hok
  obtain ⟨tp, al, nn, dp⟩ := hok
  have ha : PySem.W.AlikeAll (x :: xs) := ⟨fun y hy z hz => List.all_eq_true.mp (List.all_eq_true.mp al y hy) z hz, fun y hy => nn_of (List.all_eq_true.mp nn y hy)⟩
  refine PySem.W.min_list_data (I.ok.hd hc) hl.isList (as := []) (x := x) (xs := xs) (by simpa using rpl_reads I rl tp rv) ha (by have := hr.un; omega) fun i v h' tk bs hv rd hk => ?_
  obtain ⟨y, hy, ry⟩ := vals_get rv (j := i) (by simpa using hv)
  obtain ⟨d, hd, rd2⟩ := rpl_at rl hy
  have I2 : Inv X pins σ H { s with heap := h', toks := tk } := I.kept hk
  have e1 := reads_one (rp_reads I2 rd2 (tup_at tp d (List.mem_of_getElem? hd)) ry) (tup_at tp d (List.mem_of_getElem? hd)) rd
  exact ⟨y, H, I2, ry, q i y hy (by rw [e1]; exact hd)⟩
theorem cb_minW {k : Nat} (hr : Room k X.A) (hc : X.calm = true := by rfl) : CbD X (.builtin "min") minW := by
  refine ⟨_, cr_minW hr hc, ?_⟩
  intro W bv e σ F H fp vs ds Q S r q
  unfold minW at q
  split at q
  · rename_i x xs
    by_cases h : mnOk (x :: xs) = true
    · rw [if_pos h] at q
      cases r with
      | cons r1 r2 =>
        cases r2
        cases r1 with
        | lst hs rl =>
          refine ⟨_, _, x, xs, rfl, S.sub.l hs, rl.mono S.sub, h, fun i u hu hd => ?_⟩
          obtain ⟨d, hd2, rd⟩ := rpl_at rl hu
          rw [hd] at hd2
          cases hd2
          exact AtG.here (r := rD X.K) S q rd
    · rw [if_neg h] at q
      exact q.elim
  · exact q.elim
end
end FD
/-! FD: repr of truths too. -/
namespace FD
open PySem L2
end FD
/-! FD: the empty text * n. -/
namespace FD
open PySem L2
end FD
/-! FD: sorted(tuples of numbers), the empty one among them too. -/
namespace FD
open PySem L2 PyProof.Rows
section
open PySem.W PySem.SeqAt PySem.Calls
theorem call_tup_lt {prog : Program} {w : World} {A : Around} {s : Shared} {E : Value → Shared → Prop} {Q : Value → Shared → Prop} {l b : Addr} {items items2 : Array Value} {e r : Nat → Bool} (hl : s.heap.IsTuple l items) (hb : s.heap.IsTuple b items2)
    (he : ∀ j (h1 : j < items.size) (h2 : j < items2.size), EqAt A.in1 s items[j] items2[j] (e j)) (hr : ∀ j (h1 : j < items.size) (h2 : j < items2.size), e j = false → RcLt A.in1 s items[j] items2[j] (r j))
    (h : Q (.bool (firstLt e r (decide (items.size < items2.size)) (List.range (min items.size items2.size)))) s) : wpAny (model prog w) A (call (.builtin "tuple.__lt__") [.ref l, .ref b]) Q E s := by
  obtain ⟨⟨cls, dd, data, sl⟩, ho, hc, n, hd⟩ := id hl
  obtain ⟨⟨cls2, dd2, data2, sl2⟩, ho2, hc2, n2, hd2⟩ := id hb
  simp only at hc hd hc2 hd2
  subst hc hd hc2 hd2
  exact call_meets F.slot_tuple_lt ⟨_, ho, rfl⟩ F.entry_tuple_lt (F.args_tuple_lt_2 _ _) (tuple_ltAt l b items items2 n n2 dd dd2 sl sl2 e r) ⟨ho, ho2, he, hr, h⟩
variable {prog : Program} {w : World} {A : Around} {E : Value → Shared → Prop} {s : Shared}
theorem oneLt_tup {xs ys : List PyData} {a b : Value} {as bs : List Addr} {Q : Bool → Shared → Prop} (ra : Reads s.heap a (.tuple xs) as) (rb : Reads s.heap b (.tuple ys) bs) (h : PySem.W.alike (.tuple xs) (.tuple ys) = true)
    (hu : A.units + min (PyData.tuple xs).depth (PyData.tuple ys).depth < cLine) (hq : Q (dataLt (.tuple xs) (.tuple ys)) s) : wpAny (model prog w) A (oneLt' true a b) Q E s := by
  have hal : alikeAll xs ys = true := by simpa [PySem.W.alike] using h
  cases ra with
  | @tuple l o vs n _ as₁ h1 h2 h3 h4 =>
    cases rb with
    | @tuple l' o' vs' n' _ bs₁ k1 k2 k3 k4 =>
      have n1 : vs.size = xs.length := by simpa using ReadsAll.length _ _ _ h4
      have n2 : vs'.size = ys.length := by simpa using ReadsAll.length _ _ _ k4
      rw [dataLt_tuple, ← firstLt_toks xs ys hal, ← n1, ← n2] at hq
      rw [oneLt'_eq]
      simp only [if_true]
      refine wpAny_bind (wpAny_cRoomFor (room_here hu) ?_)
      refine wpAny_bind (wpAny_callSpecialIfBound?_slot (T := "tuple") ⟨_, h1, h2⟩ F.slot_tuple_lt (call_tup_lt (e := pairEq xs ys) (r := fun j => dataLt (xs.getD j .none) (ys.getD j .none)) ⟨_, h1, h2, _, h3⟩ ⟨_, k1, k2, _, k3⟩ (fun j j1 j2 => ?_) (fun j j1 j2 hj => ?_) ?_))
      · have := eqAt_alikeAll xs ys A.in1 s vs.toList vs'.toList _ _ h4 k4 hal (room_in hu) j (by simpa using j1) (by simpa using j2)
        simpa using this
      · have := rcLt_alikeAll xs ys A.in1 s vs.toList vs'.toList _ _ h4 k4 hal (room_in hu) j (by simpa using j1) (by simpa using j2) hj
        simpa using this
      · exact wpAny_truthy_bool hq
def neB : PyData → Bool
  | .tuple (_ :: _) => true
  | _ => false
theorem firsts_tup {M : Model} : ∀ {vs : List Value} {ds : List PyData}, EachIs (fun v d => ∃ as, Reads s.heap v d as) vs ds → (∀ d ∈ ds, ∃ xs, d = .tuple xs) → ∃ gs : List (Option Value), gs.map (·.isSome) = ds.map neB ∧ ∀ {Q : List (Option Value) → Shared → Prop}, Q gs s → wpAny M A (vs.mapM firstOfTuple') Q E s
  | _, _, .nil, _ => ⟨[], rfl, fun h => by rw [List.mapM_nil]; exact wpAny_pure h⟩
  | v :: vs, d :: ds, .cons ⟨as, r⟩ t, ht => by
    obtain ⟨gs, e1, go⟩ := firsts_tup t fun d hd => ht d (List.mem_cons_of_mem _ hd)
    obtain ⟨xs, rfl⟩ := ht d List.mem_cons_self
    cases r with
    | @tuple a o ws n _ _ ho hc hd hr =>
      refine ⟨ws[0]? :: gs, ?_, fun {Q} h => ?_⟩
      · rw [List.map_cons, List.map_cons, e1]
        congr 1
        rw [← Array.getElem?_toList]
        cases hw : ws.toList with
        | nil => rw [hw] at hr; cases hr; rfl
        | cons f fr => rw [hw] at hr; cases hr; rfl
      · rw [List.mapM_cons]
        refine wpAny_bind ?_
        rw [kas_first_eq]
        refine wpAny_bind (Looks.here (show Looks M s.heap (typeOf (.ref a)) o.cls from (Looks.ld ho).andThen .now) ?_)
        rw [hc, if_neg (by first | decide | simp)]
        refine wpAny_bind (listItems_at ho hd (wpAny_pure ?_))
        exact wpAny_bind (go (Q := fun bs s' => wpAny M A (pure (ws[0]? :: bs)) Q E s') (wpAny_pure h))
theorem kind_tup {vs : List Value} {ds : List PyData} {Q : SortKind → Shared → Prop} (e : EachIs (fun v d => ∃ as, Reads s.heap v d as) vs ds) (ht : ∀ d ∈ ds, ∃ xs, d = .tuple xs) (d₀ : PyData) (ds₀ : List PyData) (ed : ds = d₀ :: ds₀) (no : ¬ ∀ d ∈ ds, neB d = true)
    (h : Q (if neB d₀ then general' else oneType') s) : wpAny (model prog w) A (keyKind' vs.toArray) Q E s := by
  obtain ⟨gs, e1, go⟩ := firsts_tup (M := model prog w) (A := A) (E := E) e ht
  rw [keyKind'_eq, List.mapM_toArray, map_eq_pure_bind]
  refine wpAny_bind (wpAny_bind (go (wpAny_pure ?_)))
  have a1 : ¬ (gs.toArray.all fun x => x.isSome) = true := by
    intro hz
    apply no
    intro d hd
    rw [List.all_toArray, List.all_eq_true] at hz
    have hm : neB d ∈ gs.map (·.isSome) := by rw [e1]; exact List.mem_map.mpr ⟨d, hd, rfl⟩
    obtain ⟨g, hg, eg⟩ := List.mem_map.mp hm
    rw [← eg]; exact hz g hg
  rw [if_neg a1]
  have a2 : (gs.toArray[0]?.bind id).isSome = neB d₀ := by
    rw [ed] at e1
    cases gs with
    | nil => simp at e1
    | cons g gs =>
      rw [List.map_cons, List.map_cons] at e1
      have e2 := (List.cons.inj e1).1
      simpa using e2
  rw [a2]
  by_cases hn : neB d₀ = true
  · rw [if_pos hn] at h ⊢
    exact wpAny_pure h
  · rw [if_neg hn] at h ⊢
    rw [oneTypeOnly'_eq, List.mapM_toArray, map_eq_pure_bind]
    refine wpAny_bind (wpAny_bind (wpAny_bind (kas_mapM (r := Value.type "tuple") _ (fun v hv Q' hq => ?_) (wpAny_pure ?_))))
    · obtain ⟨d, hd, as, r⟩ := e.left v hv
      obtain ⟨xs, rfl⟩ := ht d hd
      exact (looks_reads r).here hq
    · have hall : ((List.map (fun _ => Value.type "tuple") vs).toArray.all fun x => x == Value.type "tuple") = true := by
        simp only [List.all_toArray, List.all_map, List.all_eq_true]
        intro _ _
        rfl
      have h0 : (List.map (fun _ => Value.type "tuple") vs).toArray[0]? = some (Value.type "tuple") := by
        rw [ed] at e
        cases e
        simp
      rw [h0]
      simp only [hall, if_true]
      exact wpAny_pure (wpAny_pure h)
theorem SortsAt.tups {vs : List Value} {ds : List PyData} (e : EachIs (fun v d => ∃ as, Reads s.heap v d as) vs ds) (hal : AllAlike ds) (ht : ∀ d ∈ ds, ∃ xs, d = .tuple xs) (hu : ∀ d, d ∈ ds → A.units + d.depth < cLine) : SortsAt prog w A s (dataKind s.heap ds) vs := by
  by_cases no : ∀ d ∈ ds, neB d = true
  · refine SortsAt.data e hal (.inl fun d hd => ?_) hu
    obtain ⟨xs, rfl⟩ := ht d hd
    cases xs with
    | nil => exact absurd (no _ hd) (by simp [neB])
    | cons x r => exact ⟨x, r, rfl⟩
  have room : ∀ {d d' : PyData}, d ∈ ds → A.units + min d.depth d'.depth < cLine := fun {d d'} hd => Nat.lt_of_le_of_lt (Nat.add_le_add_left (Nat.min_le_left _ _) _) (hu d hd)
  refine ⟨fun v hv => ?_, ?_⟩
  · obtain ⟨d, hd, as, r⟩ := e.left v hv
    exact ⟨_, dataKind_some hal hd r⟩
  cases hds : ds with
  | nil => exact absurd (fun d hd => by rw [hds] at hd; cases hd) no
  | cons d₀ ds₀ =>
    rw [← hds]
    refine ⟨if neB d₀ then general' else oneType', ?_, fun h2 E Q hq => kind_tup e ht d₀ ds₀ hds no hq⟩
    intro E x y a b Q ha hb hq
    obtain ⟨d, as, hd, ra, rfl⟩ := dataKind_inv ha
    obtain ⟨d', as', hd', rb, rfl⟩ := dataKind_inv hb
    obtain ⟨xs, rfl⟩ := ht d hd
    obtain ⟨ys, rfl⟩ := ht d' hd'
    by_cases hn : neB d₀ = true
    · rw [if_pos hn]
      show wpAny (model prog w) A (oneLt' false x y) Q E s
      exact oneLt_alike (fun z => by cases z) ra rb (hal _ hd _ hd') (fun z => by cases z) (room hd) hq
    · rw [if_neg hn]
      show wpAny (model prog w) A (oneLt' true x y) Q E s
      exact oneLt_tup ra rb (hal _ hd _ hd') (room hd) hq
end
variable [TabT]
def tupI (r : List Int) : D := .tuple (r.map .int)
def rowOf : D → Option (List Int)
  | .tuple ds => intsOf ds
  | _ => none
def rowsOf : List D → Option (List (List Int))
  | [] => some []
  | d :: ds => match rowOf d with
    | some p => (rowsOf ds).map (p :: ·)
    | none => none
def leT (a b : List Int) : Bool := decide (a ≤ b)
end FD
/-! FD: << >> and & 1. -/
namespace FD
open PySem L2
end FD
/-! FD: try with a clause of three classes. -/
namespace FD
open PySem L2
end FD
/-! FD: what stands in an owned dict under a text, as a place; {.., k: a thing to own}. -/
namespace FD
open PySem L2
end FD
/-! FD: zip(a tuple, a list, strict=True). -/
namespace FD
open PySem L2
/-! ### try .. except, where nothing is raised -/
end FD
/-! FD: x[k] of a slot that holds an owned dict or a frozen one. -/
namespace FD
open PySem L2
end FD
/-! FD: sorted(d), the keys of d tuples of numbers. -/
namespace FD
open PySem PySem.Spec L2 PyProof.Rows
section
variable {P : Program} {w : World} {A : Around} {E : Value → Shared → Prop} {s : Shared} {o : Obj} {es : Array DictEntry} {ep : Nat} {d : Addr}
def EnKey (es : Array DictEntry) (i : Nat) (v : Value) : Prop := ∃ en, es[i]? = some en ∧ en.key = v
/-- a walk of the keys, whatever they are -/
theorem walk_raw (hh : A.handled = none) (it : Addr) (hne : d ≠ it) (hod : o.data = .dict es ep) :
    Walks P w A it [it, d] [it] es.size (EnKey es) (fun i h => h.IsKeyIter it d i es.size ep ∧ h.get? d = some o) where
  sub := fun b hb => by
    rw [List.mem_singleton.mp hb]
    exact List.mem_cons_self
  frame := fun _ _ _ st hk => ⟨st.1.at fun o e => hk it (by simp) o e, hk d (by simp) _ st.2⟩
  item := fun i s Q E hi st hQ => by
    obtain ⟨en, hx⟩ : ∃ en, es[i]? = some en := ⟨es[i], by simp [hi]⟩
    refine next_key_item st.1 st.2 hod rfl hx fun h' a b => ?_
    exact hQ en.key h' s.toks ⟨en, hx, rfl⟩ ⟨a, b.extBut d o hne st.2⟩ fun c u n z => b.extBut c u (fun y => n (by rw [y]; exact List.mem_singleton_self _)) z
  done := fun s Q E st hQ => next_key_end hh st.1 st.2 hod rfl (Nat.le_refl _) fun h' a => hQ h' s.toks fun c u n z => a c u (fun y => n (by rw [y]; exact List.mem_singleton_self _)) z
  self := fun _ _ _ _ st hQ => wpAny_pyIter_keyiter st.1 hQ
theorem src_raw (lo : (d == sysModules) = false) (hx : o.ExactDict) (hod : o.data = .dict es ep) : PySem.W.KdlSrc P w "dict" d d es.size (EnKey es) (fun h => h.get? d = some o) where
  type := fun _ hm => ⟨o, hm, hx.1⟩
  there := fun _ hm => ⟨Heap.lt_size hm, Heap.lt_size hm⟩
  keep := fun _ _ hm hk => hk d (.inl rfl) o hm
  notList := by decide
  notTuple := by decide
  hint := fun _ _ _ _ hm hq => PySem.W.kdl_hint_dict ⟨o, hm, hx.1⟩ hq
  iter := fun _ _ hh hm => ⟨_, _, (fun _ _ hq => iter_keys lo hm hx hod hq), walk_raw hh _ (Nat.ne_of_lt (Heap.lt_size hm)) hod, ⟨⟨_, Heap.get?_push_size _ rfl, rfl, rfl⟩, Heap.get?_push_of_some _ hm⟩⟩
theorem raw_code {R : Result → Shared → Prop} (lo : (d == sysModules) = false) (hh : A.handled = none) (at0 : s.heap.get? d = some o) (hx : o.ExactDict) (hod : o.data = .dict es ep) (room : es.size ≤ sizeLine)
    (fin : ∀ h' tk (acc : Array Value) (c : Nat), (∀ b u, s.heap.get? b = some u → h'.get? b = some u) → h'.get? s.heap.objs.size = some { cls := .type "list", dict := none, data := .seq acc c, slots := #[] } →
      ItemsOf (EnKey es) acc es.size → R (.ok (.ret (.ref s.heap.objs.size))) { s with heap := h', toks := tk }) :
    codeAny (model P w) A (.builtin "proto.collect" ⟨[.ref d], []⟩) R s := by
  have ne : s.heap.objs.size ≠ d := Nat.ne_of_gt (Heap.lt_size at0)
  refine codeAny_builtin F.entry_proto_collect ?_
  rw [Around.under_plainId F.plain_proto_collect _]
  show wpAny _ A.in1 (newList [] >>= fun l => again (.builtin "list.__iadd__" ⟨[l, .ref d], []⟩)) _ _ s
  refine wpAny_bind (wpAny_newObj_type (wpAny_pure ⟨plainId_quiet F.plain_list_iadd _, codeAny_builtin F.entry_list_iadd ?_⟩))
  rw [Around.under_plainId F.plain_list_iadd _]
  show wpAny _ A.in1 (Builtin.List.listExtendWith (.ref s.heap.objs.size) (.ref d) (.ref s.heap.objs.size)) _ _ _
  refine PySem.W.kdl_extend (R := R) (s := { s with heap := s.heap.push { cls := .type "list", data := .seq ([] : List Value).toArray } }) (src_raw lo hx hod) hh (Heap.get?_push_of_some _ at0) _ ne ne _ 0 (Heap.get?_push_size _ rfl) (fun h' tk acc c keep at1 it => ?_) room
  exact fin h' tk acc c (fun b u e => keep b u (Nat.ne_of_lt (Heap.lt_size e)) (Heap.get?_push_of_some _ e)) at1 it
theorem en_list {acc : Array Value} (it : ItemsOf (EnKey es) acc es.size) : acc.toList = es.toList.map (·.key) := by
  refine List.ext_getElem? fun i => ?_
  rw [Array.getElem?_toList, List.getElem?_map, Array.getElem?_toList]
  cases h : acc[i]? with
  | none =>
    have n1 : acc.size ≤ i := Array.getElem?_eq_none_iff.mp h
    rw [it.1] at n1
    rw [Array.getElem?_eq_none_iff.mpr n1]
    rfl
  | some v =>
    obtain ⟨en, h1, h2⟩ := it.2 i v h
    rw [h1, ← h2]
    rfl
/-- sorted(d) -/
theorem sorted_raw {Q : Value → Shared → Prop} {vs : List Value} (κ : Heap → PyProof.Rows.KeyKind) (lo : (d == sysModules) = false) (hh : A.handled = none) (at0 : s.heap.get? d = some o) (hx : o.ExactDict) (hod : o.data = .dict es ep) (room : es.size ≤ sizeLine) (ev : vs = es.toList.map (·.key))
    (S : ∀ (h' : Heap) tk, (∀ b u, s.heap.get? b = some u → h'.get? b = some u) → PySem.W.SortsAt P w A.in1.in1 { s with heap := PySem.W.sortingHeap (h'.push (seqObj "list" vs.toArray 0)) h'.objs.size vs, toks := tk } (κ (PySem.W.sortingHeap (h'.push (seqObj "list" vs.toArray 0)) h'.objs.size vs)) vs)
    (fin : ∀ (h' : Heap) tk, (∀ b u, s.heap.get? b = some u → h'.get? b = some u) → s.heap.objs.size ≤ h'.objs.size →
      Q (.ref h'.objs.size) { s with heap := sortedHeap (h'.push (seqObj "list" vs.toArray 0)) h'.objs.size vs (PySem.W.sortVals (κ (PySem.W.sortingHeap (h'.push (seqObj "list" vs.toArray 0)) h'.objs.size vs)) false vs vs).toArray, toks := tk }) : wpAny (model P w) A (call (.builtin "sorted") [.ref d]) Q E s := by
  have small : vs.length ≤ sizeLine := by rw [ev, List.length_map, Array.length_toList]; exact room
  refine Calls.call_function_entry kind_sorted plain_sorted entry_sorted (args_sorted1 _) (?_ : wpAny _ _ _ _ _ _)
  unfold Builtin.«sorted»
  refine wpAny_bind (m := checkCount "sorted" 1 1 _) (wpAny_pure (wpAny_bind ?_))
  unfold collect
  refine wpAny_bind (wpAny_runValue (raw_code lo hh at0 hx hod room fun h' tk acc c keep at1 it => ?_))
  show wpAny _ A.in1 (load s.heap.objs.size >>= _) _ _ _
  refine wpAny_bind (wpAny_load at1 (wpAny_pure ?_))
  show wpAny _ _ _ _ _ _
  have e1 := en_list it
  rw [← ev] at e1
  show wpAny _ _ (newList acc.toList >>= _) _ _ _
  rw [e1]
  refine wpAny_bind (wpAny_newList ?_ small)
  have atL : (h'.push (seqObj "list" vs.toArray 0)).get? h'.objs.size = some (seqObj "list" vs.toArray 0) := Heap.get?_push_size _ rfl
  refine wpAny_bind (wpAny_holding (wpAny_call_entry slot_list_sort ⟨_, atL, rfl⟩ entry_list_sort (PySem.W.list_sort_vals (s := { s with heap := h'.push (seqObj "list" vs.toArray 0), toks := tk }) atL (S h' tk keep) small ⟨_, rfl, ?_⟩) (args_list_sort _)))
  exact wpAny_pure ⟨_, rfl, fin h' tk keep (Nat.le_of_lt (Heap.lt_size at1))⟩
end
variable [TabT]
/-- F, and the tuples that stand in H -/
def lrn (F H : Hp) : Hp := fun a => match H a with
  | some (.tup vs) => some (.tup vs)
  | _ => F a
section
variable {F H : Hp} {a : Addr} {u : HO}
theorem lrn_tup {vs : List V} (t : H a = some (.tup vs)) : lrn F H a = some (.tup vs) := by
  unfold lrn
  rw [t]
theorem lrn_off (t : ∀ vs, H a ≠ some (.tup vs)) : lrn F H a = F a := by
  unfold lrn
  split
  · rename_i vs e
    exact absurd e (t vs)
  · rfl
theorem tup_or (H : Hp) (a : Addr) : (∃ vs, H a = some (.tup vs)) ∨ ∀ vs, H a ≠ some (.tup vs) := by
  by_cases h : ∃ vs, H a = some (.tup vs)
  · exact .inl h
  · exact .inr fun vs z => h ⟨vs, z⟩
theorem lrn_ext (s : Sub F H) : Sub F (lrn F H) := ⟨fun a u n r => by
    rcases tup_or H a with ⟨vs, t⟩ | t
    · rcases s.rdN a u n r with z | ⟨o, z⟩
      · rw [t] at z; cases z; exact .inl (lrn_tup t)
      · rw [t] at z; cases z
    · exact rd_at (lrn_off t) r,
  fun a u x q => by
    rcases tup_or H a with ⟨vs, t⟩ | t
    · have z := s.ex a u x q
      rw [t] at z; cases z; exact lrn_tup t
    · rw [lrn_off t]; exact q,
  fun a q => by
    rcases tup_or H a with ⟨vs, t⟩ | t
    · rw [lrn_tup t] at q; cases q
    · rw [lrn_off t] at q; exact q⟩
theorem lrn_sub (s : Sub F H) : Sub (lrn F H) H := ⟨fun a u n r => by
    rcases tup_or H a with ⟨vs, t⟩ | t
    · exact rd_at (show H a = lrn F H a by rw [lrn_tup t, t]) r
    · exact s.rdN a u n (rd_at (lrn_off t).symm r),
  fun a u x q => by
    rcases tup_or H a with ⟨vs, t⟩ | t
    · rw [lrn_tup t] at q; rw [t]; exact q
    · rw [lrn_off t] at q; exact s.ex a u x q,
  fun a q => by
    rw [lrn_off fun vs z => by rw [q] at z; cases z]
    exact s.nn a q⟩
theorem lrn_stp {fp : Nat → List Addr} (s : Sub F H) : Stp F H (Pf fp) (lrn F H) H (Pf fp) := ⟨lrn_ext s, fun _ _ h _ _ _ => h, fun _ h => h, fun _ _ h => ⟨_, h⟩, fun a h => by
  rcases tup_or H a with ⟨vs, t⟩ | t
  · exact .inr (.inr fun o ho => ⟨.inl vs, by rw [t] at ho; cases ho; rfl⟩)
  · rw [lrn_off t] at h; exact .inl h, fun _ h => .inl h⟩
theorem SS.lrn {K : PySem.W.Frag} {bv : Nat → Option V} {e : Env} {σ : L2.St} {fp : Nat → List Addr} (S : SS K bv e σ F H fp) : SS K bv e σ (FD.lrn F H) H fp :=
  S.heap (lrn_ext S.sub) (lrn_sub S.sub) (fun _ _ _ _ q => q) fun i a h => by
    rw [lrn_off fun vs z => S.ntup h (.inl vs) z]
    exact S.fr i a h
end
section
variable {X : Cx} {W : WX} {bv : Nat → Option V} {pos : Pos}
theorem dictT_there {pins : List (Addr × Obj)} {σ : L2.St} {H : Hp} {s : Shared} {d : Addr} {kvs : List (List Key × V)} (I : Inv X pins σ H s) (h : Rd H d (.dT kvs)) :
    (d == sysModules) = false ∧ kvs.length ≤ sizeLine ∧ ∃ o es ep, s.heap.get? d = some o ∧ o.ExactDict ∧ o.data = .dict es ep ∧ es.size = kvs.length ∧
      ∀ (i : Nat) (k : List Key) (v : V), kvs[i]? = some (k, v) → ∃ (en : DictEntry) (q : Addr), es[i]? = some en ∧ en.key = .ref q ∧ H q = some (.tup (k.map kV)) := by
  have z : ObjOk X.prog X.w H s.heap d (.dT kvs) := by
    rcases h with h | ⟨o, h⟩
    · exact I.hok d _ h
    · exact (I.hok d _ h).2
  obtain ⟨z, hs, xs, pr, o, es, ep, ho, hx, hdt, he, _⟩ := z
  refine ⟨hs, z, o, es, ep, ho, hx, hdt, ?_, fun i k v e => ?_⟩
  · have l1 : es.size = xs.length := size_of_entries he
    have l2 : kvs.length = xs.length := Paired.length pr
    omega
  · obtain ⟨b, hb, e1, e2, _⟩ := paired_get pr e
    have q := entry_at he i
    rw [hb] at q
    exact ⟨_, b.2.1, q, rfl, e2⟩
end
end FD
/-! FD: repr of a number. -/
namespace FD
open PySem L2
end FD
/-! FD: xs[lo::n], n a number in the text. -/
namespace FD
open PySem PySem.Spec L2 PyProof.Rows
def stepIx (lo : Option Int) (c : Int) (n : Nat) : List Nat := sliceRange (sliceBounds lo none (some c) n).1 (sliceBounds lo none (some c) n).2.1 (sliceBounds lo none (some c) n).2.2
def stepV {α : Type} (xs : List α) (lo : Option Int) (c : Int) : List α := (stepIx lo c xs.length).filterMap (xs[·]?)
def stepD (c : Int) (d : D) (l : Option Int) : Option D := match d with
  | .list ds => some (.list (stepV ds l c))
  | _ => none
def stE (c : Int) (fa : EM D) (fl : EM (Option Int)) : EM D := bnd fa fun d => bnd fl fun l => lif (stepD c d l)
end FD
/-! FD: list(range(a, b)); [f(..) for f in (g, h)]: two functions of the module, each called once with the same things. -/
namespace FD
open PySem PySem.Spec L2 PyProof.Rows
/-! ### functions asked -/
end FD
/-! FD: * and // of great numbers. -/
namespace FD
open PySem L2
end FD
/-! FD: tuples of the module among data; self.f += k. -/
namespace FD
variable [TabT]
open PySem L2
/-- a thing's item: a tuple's of the module too -/
def ktIx (d1 d2 : D) : Option D := match d1 with
  | .dict kvs => match d2 with
    | .int i => if ktT kvs = true then atI (kvs.map (·.2)) i else none
    | _ => none
  | d1 => ixD d1 d2
def augFS (i : Nat) (π : Way) (C f : Str) (k : Int) : EM Flow := fun e => match pgM i (π ++ [(C, f)]) e with
  | some (.im (.int n)) => match (pgM i π e).bind (fldK C f (.im (.int (n + k)))) with
    | some m => .ok .nxt (psM i π m e)
    | none => .no
  | _ => .no
end FD
/-! FD: d.update(other), keys that are tuples of numbers. -/
namespace FD
variable [TabT]
open PySem L2
/-- what keys of numbers hash to -/
def khs : List Key → Option (List Int)
  | [] => some []
  | .inl i :: r => (khs r).map (hashInt i :: ·)
  | .inr _ :: _ => none
def hshT (k : List Key) : Option Int := (khs k).map fun l => reduceHash (Builtin.Tuple.tupleHashOf l)
def hshs : List (List Key) → Option (List Int)
  | [] => some []
  | k :: r => match hshT k with
    | some h => (hshs r).map (h :: ·)
    | none => none
def apartB (ks : List (List Key)) : Bool := match hshs ks with
  | some hs => decide hs.Nodup
  | none => false
end FD
/-! FD: an owned dict is updated by data. -/
namespace FD
variable [TabT]
open PySem L2
def allM (kms : List (List Key × M)) (la : List (List Key × D)) : List (List Key × M) := la.foldl (fun acc p => putKK acc p.1 (.im p.2)) kms
def updDT (m : M) (d : D) : Option M := match m with
  | .dt kms => match d with
    | .dict kvs => match dictT kvs with
      | some la => if few (kms.length + la.length) && ((kms.all fun p => isIm p.2) && (!kms.isEmpty || apartB (la.map (·.1)))) then some (.dt (allM kms la)) else none
      | none => none
    | _ => none
  | _ => none
end FD
/-! FD: a, b, *rest = a tuple. -/
namespace FD
variable [TabT]
open PySem L2
open PySem.Spec PySem.Calls PyProof.Rows
section
variable {X : Cx} {bv : Nat → Option V} {pos : Pos}
def gStr (n : Nat) (u : List D → EM Unit) : D → EM Unit := fun d e => match d with
  | .tuple ds => if n ≤ ds.length ∧ ds.length ≤ 16384 then u (ds.take n ++ [.list (ds.drop n)]) e else .no
  | _ => .no
end
end FD
/-! FD: sorting pairs by their first things, tuples of numbers. -/
namespace FD
open PySem L2 PyProof.Rows
end FD
/-! FD: sorted(d.items()), keys that are tuples of numbers. -/
namespace FD
open PySem PySem.Spec L2 PyProof.Rows
section
variable [TabT]
open PySem.W PySem.SeqAt PySem.Calls
def leP1 {α : Type} (p q : List Int × α) : Bool := leT p.1 q.1
end
end FD
/-! FD: sorted(place.items()) as data. -/
namespace FD
variable [TabT]
open PySem L2
def refD : D → Bool
  | .tuple _ => true
  | .list _ => true
  | .dict _ => true
  | _ => false
def imDs : List M → Option (List D)
  | [] => some []
  | .im d :: r => (imDs r).map (d :: ·)
  | _ :: _ => none
def pairI (p : List Int × D) : D := .tuple [tupI p.1, p.2]
def srtItD (kms : List (List Key × M)) : Option D := match rowsOf (kms.map fun p => PyData.tuple (p.1.map keyD)) with
  | some rs => match imDs (kms.map (·.2)) with
    | some ds => if ds.all refD then some (.list (((rs.zip ds).mergeSort leP1).map pairI)) else none
    | none => none
  | none => none
def srtItE (i : Nat) (π : Way) : EM D := fun e => match pgM i π e with
  | some (.dt kms) => match srtItD kms with
    | some d => .ok d e
    | none => .no
  | _ => .no
end FD
/-! FD: place.pop(); place.append(e), e anything that leaves the list alone. -/
namespace FD
open PySem L2
end FD
/-! FD: {NAME: x, ..}, the names texts of the module. -/
namespace FD
open PySem L2
end FD
/-! FD: name = {tuple: value for ..}, owned; three names of things at once. -/
namespace FD
open PySem PySem.Spec L2 PyProof.Rows
/-- a dict that is just made, to own -/
def dcM (f : EM D) : EM M := bnd f fun d => match d with
  | .dict kvs => match dictT kvs with
    | some la => ret (.dt (la.map fun p => (p.1, .im p.2)))
    | none => fun _ => .no
  | _ => fun _ => .no
section
variable [TabT] {X : Cx} {W : WX} {bv : Nat → Option V} {pos : Pos} {a b c : Expr}
/-- a, b, c = x, y, z with plain names, things to own among them -/
def parN (is : List Nat) (fv : EM (List M)) : EM Flow := bnd fv fun ms e => match stoL is ms e with
  | some e' => .ok .nxt e'
  | none => .no
end
end FD
/-! FD: == and != of dicts, the values tuples. -/
namespace FD
variable [TabT]
open PySem L2 PyProof.Rows
def RdU (H : Hp) (a : Addr) (kvs : List (List Key × V)) : Prop := Rd H a (.dT kvs) ∨ (kvs = [] ∧ Rd H a (.dK []))
section
variable {X : Cx}
theorem RdU.at {pins : List (Addr × Obj)} {σ : L2.St} {H : Hp} {s : Shared} {a : Addr} {kvs : List (List Key × V)} (I : Inv X pins σ H s) (h : RdU H a kvs) : (a == sysModules) = false ∧ ∃ xs, KT H kvs xs ∧ s.heap.DictOfH (tupleKind (mixKind X.prog X.w)) a xs := by
  rcases h with h | ⟨rfl, h⟩
  · obtain ⟨_, h2, h3⟩ := dt_rd I.hok h
    exact ⟨h2, h3⟩
  · obtain ⟨h2, h3⟩ := emptyH I h
    exact ⟨h2, [], .nil, h3⟩
end
end FD
/-! FD: xs[lo:hi] = [..], an owned list of data. -/
namespace FD
variable [TabT]
open PySem L2 PySem.Spec PyProof.Rows
def slcS (i : Nat) (ga gb : Env → Option D) (fm : EM M) : EM Flow := bnd fm fun m e => match m with
  | .ls ns => match ga e with
    | some (.int lo) => match gb e with
      | some (.int hi) => match e[i]? with
        | some (some (.ls ms)) => match imAll ns with
          | some ds => match imAll ms with
            | some es => if (decide (0 ≤ lo) && (decide (lo ≤ hi) && decide (hi ≤ es.length))) && few (es.length + ds.length) then .ok .nxt (e.set i (some (.ls ((es.take lo.toNat ++ ds ++ es.drop hi.toNat).map .im)))) else .no
            | none => .no
          | none => .no
        | _ => .no
      | _ => .no
    | _ => .no
  | _ => .no
end FD
/-! FD: del xs[i], an owned list of data. -/
namespace FD
variable [TabT]
open PySem L2 PySem.Spec PyProof.Rows
theorem RpL.erase {K : PySem.W.Frag} {F : Hp} {vs : List V} {ds : List D} (r : RpL K F vs ds) (k : Nat) : RpL K F (vs.eraseIdx k) (ds.eraseIdx k) := by
  rw [List.eraseIdx_eq_take_drop_succ, List.eraseIdx_eq_take_drop_succ]
  exact RpL.append (RpL.take k r) (RpL.drop (k + 1) r)
end FD
/-! FD: a method without arguments of what an expression makes. -/
namespace FD
open PySem L2 PySem.Spec PyProof.Rows
end FD
/-! FD: [..] * n, owned. -/
namespace FD
variable [TabT]
open PySem L2 PySem.Spec PyProof.Rows
def repM (fs : EM (List D)) (fb : EM D) : EM M := bnd fs fun ds => if few ds.length then bnd fb fun k => (match k with
  | .int k => if decide (-(2 ^ 63) ≤ k) && decide (k < 2 ^ 63) && few (ds.length * k.toNat) then ret (.ls ((repL ds k).map .im)) else fun _ => .no
  | _ => fun _ => .no) else fun _ => .no
end FD
/-! FD: xs.index(k) of an owned list of numbers, that stays owned. -/
namespace FD
open PySem L2 PySem.Spec PyProof.Rows
end FD
/-! FD: sorted(t) of a tuple of numbers. -/
namespace FD
open PySem PySem.Spec L2 PyProof.Rows
end FD
namespace FD
open PySem PySem.Spec L2 PyProof.Rows
end FD
/-! FD: list(range(a, b)) to own. -/
namespace FD
open PySem PySem.Spec L2 PyProof.Rows
variable [TabT]
def rg2M (fa fb : EM D) : EM M := bnd fa fun c => bnd fb fun d => match rgD .list [c, d] with
  | some (.list ds) => ret (.ls (ds.map .im))
  | _ => fun _ => .no
end FD
/-! FD: row[e] of an owned list, asked quietly. -/
namespace FD
open PySem PySem.Spec L2 PyProof.Rows
end FD
/-! FD: xs != [] of a list of anything. -/
namespace FD
open PySem PySem.Spec L2 PyProof.Rows
end FD
/-! FD: divmod(a, b), numbers. -/
namespace FD
open PySem PySem.Spec L2 PyProof.Rows
end FD
/-! FD: x not in range(n), numbers. -/
namespace FD
open PySem PySem.Spec L2 PyProof.Rows
end FD
/-! FD: sorted(a set of numbers). -/
namespace FD
open PySem PySem.Spec L2 PyProof.Rows
end FD
/-! FD: sorted(set(e)), numbers. -/
namespace FD
open PySem PySem.Spec L2 PyProof.Rows
end FD
/-! FD: dict(zip(a, b)) of two lists of texts. -/
namespace FD
variable [TabT]
open PySem L2
def zipSD (xs ys : List Str) : List (Key × D) := (xs.zip ys).map fun p => (.inr p.1, .str p.2)
section
variable {X : Cx} {e e2 : Expr} {ta : TA} {p p2 pos pos2 : Pos}
def strL : List D → Option (List Str)
  | [] => some []
  | .str x :: l => (strL l).map (x :: ·)
  | _ => none
def dzLO (fs : EM (List D)) : EM M := bnd fs fun ds => match ds with
  | [.list x, .list y] => match strL x, strL y with
    | some xs, some ys => if decide (xs.length ≤ 100) then FD.ret (.dk ((mrgD [] (zipSD xs ys)).map fun p => (p.1, .im p.2))) else fun _ => .no
    | _, _ => fun _ => .no
  | _ => fun _ => .no
variable {W : WX} {bv : Nat → Option V} {fs : EM (List D)}
end
end FD
/-! FD: a list comprehension of three clauses: each clause's loop by what its body does. -/
namespace FL3
open PySem L2 PySem.Spec PyProof.Rows
section
variable {prog : Program} {w : World} {A : Around}
/-- what a body comes to, from a state: Post holds behind it -/
abbrev Body := (Shared → Prop) → Shared → Prop
variable {elt t0 i0 t1 i1 t2 i2 : Expr} {f0 f1 f2 : List Expr} {scope : Scope} {pos : Pos} {src acc : Value} {env : Env}
end
end FL3
/-! FD: a list comprehension of three clauses, over what is known of the heap. -/
namespace FL3
open PySem L2 PySem.Spec PyProof.Rows
end FL3
/-! FD: a list comprehension of three clauses: the rule. -/
namespace FL3
open PySem L2 PySem.Spec PyProof.Rows
end FL3
/-! FD: comprehensions of three clauses: what they denote. -/
namespace FD
open PySem L2 FL3
end FD
/-! FD: repr of a list display whose items are tuples and dicts of texts. -/
namespace FD
variable [TabT]
open PySem L2
def txK : D → Bool
  | .str _ => true
  | _ => false
def dS : D → Bool
  | .dict kvs => kvs.all fun p => txK p.1 && tupD p.2
  | _ => false
def itG (d : D) : Bool := tupD d || dS d
def repG (ds : List D) : Bool := ds.all itG && ((PyData.list ds).showable && ((PyData.list ds).leavesShort 13 && (decide ((PyData.list ds).depth ≤ 40) && decide ((PyData.list ds).weight ≤ 2 ^ 20))))
def reprG (ds : List D) : Option D := if few ds.length && repG ds then some (.str (PyData.list ds).shown) else none
def reprLE (fs : EM (List D)) : EM D := bnd fs fun ds => lif (reprG ds)
end FD
/-! FD: sorted of tuples of texts: a list of them, a dict with such keys. -/
namespace FD
open PySem PySem.Spec L2 PyProof.Rows
variable [TabT]
def tupS (r : List Str) : D := .tuple (r.map .str)
def srowOf : D → Option (List Str)
  | .tuple ds => strsOf ds
  | _ => none
def srowsOf : List D → Option (List (List Str))
  | [] => some []
  | d :: ds => match srowOf d with
    | some p => (srowsOf ds).map (p :: ·)
    | none => none
def cpL (x : Str) : List Nat := x.cps.toList
def leTS (a b : List Str) : Bool := decide (a.map cpL ≤ b.map cpL)
def srtTS (xs : List (List Str)) : List (List Str) := xs.mergeSort leTS
theorem cpL_inj {x y : Str} (h : cpL x = cpL y) : x = y := by
  obtain ⟨a⟩ := x
  obtain ⟨b⟩ := y
  unfold cpL at h
  congr
  exact Array.toList_inj.mp h
open PySem.W in
theorem rowLt_strs : ∀ xs ys : List Str, rowLt (xs.map .str) (ys.map .str) = decide (xs.map cpL < ys.map cpL)
  | [], [] => by
    have e : rowLt [] [] = false := lex_irrefl _
    simp [e]
  | [], y :: ys => by
    have e : rowLt [] (PyData.str y :: ys.map .str) = true := by
      unfold rowLt
      rw [toks_all_cons]
      simp only [keyToksAll]
      rw [lex_diff (O := itemOrd) (by simp)]
      rfl
    simpa using e
  | x :: xs, [] => by
    have e : rowLt (PyData.str x :: xs.map .str) [] = false := by
      unfold rowLt
      rw [toks_all_cons]
      simp only [keyToksAll]
      rw [lex_diff (O := itemOrd) (by simp)]
      rfl
    simpa using e
  | x :: xs, y :: ys => by
    have e : rowLt (PyData.str x :: xs.map .str) (PyData.str y :: ys.map .str) = if x = y then rowLt (xs.map .str) (ys.map .str) else decide (cpL x < cpL y) := by
      unfold rowLt
      rw [dataLt_cons (by simp [PySem.W.alike]), dataLt_str]
      simp only [PyData.eqv, beq_iff_eq]
      rfl
    show rowLt (PyData.str x :: xs.map .str) (PyData.str y :: ys.map .str) = _
    rw [e]
    by_cases h : x = y
    · rw [if_pos h, rowLt_strs xs ys]
      simp [h, List.cons_lt_cons_iff]
    · rw [if_neg h]
      have h' : cpL x ≠ cpL y := fun z => h (cpL_inj z)
      simp [h', List.cons_lt_cons_iff]
theorem dataLe_tupS : PySem.W.dataLe false tupS = leTS := by
  rw [PySem.W.dataLe_eq]
  funext a b
  show (!PySem.W.dataLt (.tuple (b.map .str)) (.tuple (a.map .str))) = _
  rw [PySem.W.dataLt_tuple]
  show (!PySem.W.rowLt (b.map .str) (a.map .str)) = _
  rw [rowLt_strs]
  unfold leTS
  by_cases h : b.map cpL < a.map cpL
  · have h' : ¬ a.map cpL ≤ b.map cpL := fun q => List.not_lt.mpr q h
    simp [h, h']
  · have h' : a.map cpL ≤ b.map cpL := List.not_lt.mp h
    simp [h, h']
theorem tupS_alike (a b : List Str) : PySem.W.alike (tupS a) (tupS b) = true := by
  have : ∀ xs ys : List Str, PySem.W.alikeAll (xs.map .str) (ys.map .str) = true := by
    intro xs
    induction xs with
    | nil => intro ys; cases ys <;> simp [PySem.W.alikeAll]
    | cons x xs ih =>
      intro ys
      cases ys with
      | nil => simp [PySem.W.alikeAll]
      | cons y ys => simp [PySem.W.alikeAll, PySem.W.alike, ih ys]
  show PySem.W.alike (.tuple (a.map .str)) (.tuple (b.map .str)) = true
  unfold PySem.W.alike
  exact this a b
theorem depth_strs : ∀ xs : List Str, PyData.depthAll (xs.map .str) = 0
  | [] => rfl
  | x :: xs => by simp [PyData.depthAll, PyData.depth, depth_strs xs]
theorem tupS_depth (a : List Str) : (tupS a).depth = 1 := by
  show (PyData.tuple (a.map .str)).depth = 1
  unfold PyData.depth
  rw [depth_strs]
theorem tupS_tup (a : List Str) : tupD (tupS a) = true := by
  have : ∀ a : List Str, tupDs (a.map PyData.str) = true := by
    intro a
    induction a with
    | nil => rfl
    | cons x a ih => simp [tupDs, tupD, ih]
  show tupD (.tuple (a.map .str)) = true
  unfold tupD
  exact this a
section
variable {X : Cx} {W : WX} {bv : Nat → Option V} {pos : Pos}
theorem each_relS {pins : List (Addr × Obj)} {σ : L2.St} {F H : Hp} {s : Shared} (I : Inv X pins σ H s) (sb : Sub F H) : ∀ {us : List V} {rs : List (List Str)} {vs : List Value}, RpL X.K F us (rs.map tupS) → Vals us vs →
    PySem.W.EachIs (fun v r => ∃ y, RelV y v ∧ Rp X.K F y (tupS r)) vs rs ∧ PySem.W.EachIs (fun v r => ∃ as, Reads s.heap v (tupS r) as) vs rs
  | [], [], _, _, .nil => ⟨.nil, .nil⟩
  | u :: us, r :: rs, _, .cons a b, .cons c d => by
    obtain ⟨h1, h2⟩ := each_relS I sb b d
    exact ⟨.cons ⟨u, c, a⟩ h1, .cons ⟨[], rp_reads I (a.mono sb) (tupS_tup r) c⟩ h2⟩
theorem each_backS {K : PySem.W.Frag} {F : Hp} : ∀ {vs : List Value} {rs : List (List Str)}, PySem.W.EachIs (fun v r => ∃ y, RelV y v ∧ Rp K F y (tupS r)) vs rs → ∃ ys, Vals ys vs ∧ RpL K F ys (rs.map tupS)
  | _, _, .nil => ⟨[], .nil, .nil⟩
  | _, _, .cons ⟨y, h1, h2⟩ t => by
    obtain ⟨ys, a, b⟩ := each_backS t
    exact ⟨y :: ys, .cons h1 a, .cons h2 b⟩
end
def rSrtDTS (K : PySem.W.Frag) : List V → Hp → VK → Prop := fun vs H Q => ∃ (a : Addr) (kvs : List (List Key × V)) (rs : List (List Str)) (F : Hp), vs = [V.ref a] ∧ Rd H a (.dT kvs) ∧ kvs.map (·.1) = rs.map (List.map Sum.inr) ∧ Sub F H ∧ ∀ p ys, H p = none → RpL K (lrn F H) ys ((srtTS rs).map tupS) → Q (.ref p) (upd H p (.lst ys))
section
variable {X : Cx} {W : WX} {bv : Nat → Option V} {pos : Pos}
theorem tupsS_of {K : PySem.W.Frag} {G : Hp} : ∀ {kvs : List (List Key × V)} {rs : List (List Str)} {ens : List DictEntry}, kvs.map (·.1) = rs.map (List.map Sum.inr) → ens.length = kvs.length →
    (∀ (i : Nat) (k : List Key) (v : V), kvs[i]? = some (k, v) → ∃ (en : DictEntry) (q : Addr), ens[i]? = some en ∧ en.key = .ref q ∧ G q = some (.tup (k.map kV))) → ∃ us, RpL K G us (rs.map tupS) ∧ Vals us (ens.map (·.key))
  | [], [], [], _, _, _ => ⟨[], .nil, .nil⟩
  | (k, v) :: kvs, r :: rs, en :: ens, e, l, h => by
    rw [List.map_cons, List.map_cons] at e
    injection e with e1 e2
    obtain ⟨en1, q, h1, h2, h3⟩ := h 0 k v rfl
    cases h1
    obtain ⟨us, a, b⟩ := tupsS_of e2 (Nat.succ.inj l) fun i k v hk => h (i + 1) k v hk
    dsimp only at e1
    subst e1
    refine ⟨.ref q :: us, .cons ?_ a, .cons h2 b⟩
    refine .tup h3 ?_
    have := kVs_rp (K := K) (F := G) (r.map Sum.inr)
    rw [List.map_map (f := Sum.inr) (g := keyD)] at this
    exact this
  | [], _ :: _, _, e, _, _ => nomatch e
  | _ :: _, [], _, e, _, _ => nomatch e
  | [], [], _ :: _, _, l, _ => nomatch l
  | _ :: _, _ :: _, [], _, l, _ => nomatch l
theorem cr_srtDTS {k : Nat} (hr : Room k X.A) (hc : X.calm = true) : CallR X (.builtin "sorted") (rSrtDTS X.K) := by
  intro pins s σ H vs us Q I r ⟨a, kvs, rs, F, e, hd, ek, sb, q⟩
  subst e
  rw [Vals.ref1 r]
  obtain ⟨lo, room, o, es, ep, ho, hx, hdt, hsz, ent⟩ := dictT_there I hd
  have sG : Sub (lrn F H) H := lrn_sub sb
  obtain ⟨ws, rl, rv⟩ := tupsS_of (K := X.K) (G := lrn F H) (ens := es.toList) ek (by rw [Array.length_toList]; exact hsz) fun i k v hk => by
    obtain ⟨en, q, h1, h2, h3⟩ := ent i k v hk
    exact ⟨en, q, by rw [Array.getElem?_toList]; exact h1, h2, lrn_tup h3⟩
  have len : (es.toList.map (·.key)).length ≤ sizeLine := by rw [List.length_map, Array.length_toList, hsz]; exact room
  generalize ev : es.toList.map (·.key) = its at rv len
  obtain ⟨e0, er⟩ := each_relS I sG rl rv
  have hal : PySem.W.AllAlike (rs.map tupS) := PySem.W.AllAlike.of tupS_alike
  have olds : ∀ {h' : Heap}, (∀ b u, s.heap.get? b = some u → h'.get? b = some u) → ∀ b u, s.heap.get? b = some u → (PySem.W.sortingHeap (h'.push (seqObj "list" its.toArray 0)) h'.objs.size its).get? b = some u := fun {h'} keep b u hb =>
    PySem.W.sortingHeap_old (Nat.ne_of_lt (Heap.lt_size (keep b u hb))) (Heap.get?_push_of_some _ (keep b u hb))
  have er' : ∀ {h' : Heap}, (∀ b u, s.heap.get? b = some u → h'.get? b = some u) → PySem.W.EachIs (fun v r => ∃ as, Reads (PySem.W.sortingHeap (h'.push (seqObj "list" its.toArray 0)) h'.objs.size its) v (tupS r) as) its rs := fun {h'} keep =>
    er.mono fun _ _ ⟨as, r⟩ => ⟨as, PyProof.Rows.Reads.keeps (fun b u hb => olds keep b u hb) r⟩
  refine sorted_raw (vs := its) (fun h => PySem.W.dataKind h (rs.map tupS)) lo (I.ok.hd hc) ho hx hdt (by rw [hsz]; exact room) ev.symm (fun h' tk keep => ?_) fun h' tk keep hle => ?_
  · refine SortsAt.tups (s := { s with heap := PySem.W.sortingHeap (h'.push (seqObj "list" its.toArray 0)) h'.objs.size its, toks := tk }) (PySem.W.each_map (R := fun v d => ∃ as, Reads (PySem.W.sortingHeap (h'.push (seqObj "list" its.toArray 0)) h'.objs.size its) v d as) tupS (er' keep)) hal (fun d hd => ?_) (fun d hd => ?_)
    · obtain ⟨r, _, rfl⟩ := List.mem_map.mp hd
      exact ⟨_, rfl⟩
    · obtain ⟨r, _, rfl⟩ := List.mem_map.mp hd
      rw [tupS_depth]
      have := hr.un
      show X.A.units + 2 + 1 < cLine
      omega
  · have eo := PySem.W.sortVals_data false e0 (er' keep) hal
    rw [dataLe_tupS] at eo
    obtain ⟨ys, y1, y2⟩ := each_backS eo
    have atL : (h'.push (seqObj "list" its.toArray 0)).get? h'.objs.size = some (seqObj "list" its.toArray 0) := Heap.get?_push_size _ rfl
    obtain ⟨ep, hat⟩ := sortedHeap_at (out := (PySem.W.sortVals (PySem.W.dataKind (PySem.W.sortingHeap (h'.push (seqObj "list" its.toArray 0)) h'.objs.size its) (rs.map tupS)) false its its).toArray) atL
    have sz : ys.length ≤ sizeLine := by
      have z1 := y1.length
      have z2 := PySem.W.sortVals_length (κ := PySem.W.dataKind (PySem.W.sortingHeap (h'.push (seqObj "list" its.toArray 0)) h'.objs.size its) (rs.map tupS)) (ks := its) (vs := its) false rfl
      omega
    refine ⟨.ref _, upd H h'.objs.size (.lst ys), I.laid (t' := tk) (fun b u hb => ?_) hle ⟨sz, _, ep, y1, hat⟩, rfl, q _ ys (I.hok.fresh hle) y2⟩
    have lt := Heap.lt_size (keep b u hb)
    rw [sortedHeap_old (Nat.ne_of_lt lt) (by rw [size_push']; exact Nat.lt_succ_of_lt lt)]
    exact Heap.get?_push_of_some _ (keep b u hb)
def sortedDTSD : List D → Option D
  | [.dict kds] => (srowsOf (kds.map (·.1))).map fun rs => .list ((srtTS rs).map tupS)
  | _ => none
theorem strsOf_keys : ∀ {ks : List Key} {ns : List Str}, strsOf (ks.map keyD) = some ns → ks = ns.map Sum.inr
  | [], ns, h => by cases h; rfl
  | .inr i :: ks, ns, h => by
    obtain ⟨ms, h1, rfl⟩ := Option.map_eq_some_iff.mp (show (strsOf (ks.map keyD)).map (i :: ·) = some ns from h)
    rw [List.map_cons, ← strsOf_keys h1]
  | .inl x :: ks, ns, h => by cases h
theorem srws : ∀ {kds : List (List Key × D)} {rs : List (List Str)}, srowsOf ((kds.map fun p => (PyData.tuple (p.1.map keyD), p.2)).map (·.1)) = some rs → kds.map (·.1) = rs.map (List.map Sum.inr)
  | [], rs, h => by cases h; rfl
  | (k, d) :: r, rs, h => by
    have h' : (match strsOf (k.map keyD) with
      | some p => (srowsOf ((r.map fun p => (PyData.tuple (p.1.map keyD), p.2)).map (·.1))).map (p :: ·)
      | none => none) = some rs := h
    cases h1 : strsOf (k.map keyD) with
    | none => rw [h1] at h'; cases h'
    | some p =>
      rw [h1] at h'
      obtain ⟨qs, h2, rfl⟩ := Option.map_eq_some_iff.mp h'
      rw [List.map_cons, List.map_cons, srws h2, ← strsOf_keys h1]
theorem srwsK : ∀ {kds : List (Key × D)} {rs : List (List Str)}, srowsOf ((kds.map fun p => (keyD p.1, p.2)).map (·.1)) = some rs → kds = [] ∧ rs = []
  | [], rs, h => by cases h; exact ⟨rfl, rfl⟩
  | (.inl i, d) :: r, rs, h => by cases h
  | (.inr i, d) :: r, rs, h => by cases h
theorem cb_sortedDTS {k : Nat} (hr : Room k X.A) (hc : X.calm = true) : CbD X (.builtin "sorted") sortedDTSD := by
  refine ⟨_, CallR.or (cr_srtDTS hr hc) (cr_srtDict hc), ?_⟩
  intro W bv e σ F H fp vs ds Q S r q
  obtain ⟨d, hd, q'⟩ := q.lif
  unfold sortedDTSD at hd
  split at hd
  rotate_left
  · cases hd
  rename_i kds0
  obtain ⟨rs, hx, ed⟩ := Option.map_eq_some_iff.mp hd
  subst ed
  cases r with
  | cons r t =>
    cases t
    cases r with
    | dT h e rl =>
      refine .inl ⟨_, _, rs, F, rfl, S.sub.rd _ _ h, e.trans (srws hx), S.sub, fun p ys hp ry => ?_⟩
      exact AtG.made (r := rD X.K) S.lrn (AtG.back (lrn_stp S.sub) q') hp (.lst (.inl (.inl upd_same)) (ry.mono (Sub.new ((lrn_sub S.sub).non hp))))
    | dK h e rl =>
      obtain ⟨e1, rfl⟩ := srwsK hx
      subst e1
      have e2 := List.map_eq_nil_iff.mp (e.trans List.map_nil)
      subst e2
      refine .inr ⟨_, [], [], rfl, .inl (S.sub.rd _ _ h), rfl, fun p hp => ?_⟩
      exact AtG.made (r := rD X.K) S q' hp (.lst (.inl (.inl upd_same)) (by rw [show srtS [] = [] by simp [srtS], show srtTS [] = [] by simp [srtTS]]; exact .nil))
    | kt _ hn _ =>
      rename_i ds
      cases ds with
      | nil => exact absurd rfl hn
      | cons d ds => cases hx
    | opq _ => cases hx
    | fn _ => cases hx
end
end FD
/-! FD: a clause of any number of classes; isinstance of a kept error among any number of classes. -/
namespace FD
open PySem L2
end FD
/-! FD: a lambda kept in a local name. -/
namespace FD
open PySem L2 LamX
open PyProof.Rows (envOfC)
end FD
/-! FD: a lambda kept in a local name: what it denotes. -/
namespace FD
open PySem L2 LamX
open PyProof.Rows (envOfC)
end FD
/-! FD: repr of whatever is handed in: none, truths, numbers, texts, the empty dict, lists and tuples. -/
namespace FD
open PySem L2
end FD
/-! FD: name = {tuple: v for ..}, kept as data. -/
namespace FD
open PySem L2
end FD
/-! FD: zip(a tuple, a list). -/
namespace FD
open PySem L2
end FD
/-! FD: try: .. except C as n: xs.append(n.f); a list by its own self. -/
namespace FD
open PySem L2
open PyProof.Rows (AllBare)
/-! ### a list by its own self -/
end FD
/-! FD: own errors straight over IndexError; clauses, isinstance, fields over several raised classes. -/
namespace FD
open PySem L2
/-! ### several classes that may come -/
end FD
/-! FD: repr of lists and tuples with greater numbers in them. -/
namespace FD
open PySem L2
end FD
/-! FD: defs of the module as data, by their names; a call of a name that holds one. -/
namespace FD
variable [TabT]
open PySem L2
/-- a def of the module that is handed on by its name -/
def FnN (K : PySem.W.Frag) (mg : Str → Option Value) (nm : Str) : Prop := (nm == ("" : Str)) = false ∧ ∃ f, mg nm = some (.ref f) ∧ PySem.W.nsIn K mainGlobals nm = some (some (.ref f))
section
variable {X : Cx} {W : WX} {bv : Nat → Option V} {pos p : Pos} {nm y : Str} {a : Expr} {es : List Expr} {fr : EM (List AR)} {v : Nat}
/-- the defs of a table, each as its own call wants it -/
inductive TabN (X : Cx) : List (Str × (List M → FOut)) → Prop
  | nil : TabN X []
  | cons {nm : Str} {k : Nat} {ps : List Str} {Fs : List M → FOut} {l : List (Str × (List M → FOut))} : Has X.prog X.w X.K X.mg X.base k nm ps Fs → FnN X.K X.mg nm → Room k X.A → TabN X l → TabN X ((nm, Fs) :: l)
theorem TabN.get {Fs : List M → FOut} : ∀ {l : List (Str × (List M → FOut))}, TabN X l → l.lookup nm = some Fs → ∃ k ps, Has X.prog X.w X.K X.mg X.base k nm ps Fs ∧ FnN X.K X.mg nm ∧ Room k X.A
  | _, .nil, h => by cases h
  | _, .cons (nm := n) (l := l) a b c t, h => by
    rw [List.lookup_cons] at h
    cases e : nm == n with
    | true =>
      rw [e] at h
      cases h
      obtain rfl := eq_of_beq e
      exact ⟨_, _, a, b, c⟩
    | false =>
      rw [e] at h
      exact t.get h
end
end FD
/-! FD: xs.count(d), xs.index(d) of data. -/
namespace FD
open PySem L2
end FD
/-! FD: calls that leave out a keyword whose default is a tuple. -/
namespace FD
open PySem L2
end FD
/-! FD: repr of nested tuples and lists with empty dicts in them. -/
namespace FD
open PySem L2
end FD
/-! FD: an item of a place that is owned, or was frozen since. -/
namespace FD
open PySem L2
end FD
/-! FD: a, b = t, t a tuple, the module's too. -/
namespace FD
open PySem L2
end FD
/-! FD: methods that may raise, of an object that is owned or frozen at a slot; by keywords alone, too. -/
namespace FD
open PySem L2
end FD
/-! FD: constructors that may raise; an object as a result of which nothing is known. -/
namespace FD
open PySem L2
end FD
/-! FD: d[k] as one of many targets, d an owned dict. -/
namespace FD
open PySem L2
end FD
/-! FD: methods and constructors that may raise; methods by keywords; methods with a default. -/
namespace FD
open PySem L2
end FD
/-! FD: an object that nobody changes from here on; an empty list by its own self. -/
namespace FD
open PySem L2
/-! ### a list by its own self, empty at first -/
end FD
/-! FD: try with two clauses, each appends what its error holds. -/
namespace FD
open PySem L2
open PyProof.Rows (AllBare)
end FD
/-! FD: two clauses, the fields of what each catches. -/
namespace FD
open PySem L2
end FD
/-! FD: repr of nested lists and tuples with empty dicts in them, lists at the top. -/
namespace FD
open PySem L2
end FD
/-! FD: methods that may raise, of a frozen object at a slot; by keywords alone, too. -/
namespace FD
open PySem L2
end FD
/-! FD: len(set(a tuple of numbers)), some of them twice. -/
namespace FD
variable [TabT]
open PySem L2 PySem.Spec PyProof.Rows
/-- each once -/
def dd : List Int → List Int
  | [] => []
  | a :: r => if a ∈ r then dd r else a :: dd r
end FD
/-! len of an owned object that has a length of its own, whatever it holds. -/
namespace FD
open PySem PySem.Spec PyProof.Rows L2
end FD
/-! len(set(a list of tuples of numbers)), all unlike, fewer than 64. -/
namespace FD
open PySem PySem.Spec PyProof.Rows L2
variable [TabT]
theorem nd_len {α : Type} [DecidableEq α] : ∀ (l D : List α), l.Nodup → (∀ x ∈ l, x ∈ D) → l.length ≤ D.length
  | [], D, _, _ => Nat.zero_le _
  | x :: l, D, hn, hs => by
    obtain ⟨h1, h2⟩ := List.nodup_cons.mp hn
    have := nd_len l (D.erase x) h2 fun y hy => (List.mem_erase_of_ne (fun e => h1 (by rw [← e]; exact hy))).mpr (hs y (List.mem_cons_of_mem _ hy))
    have hx := hs x List.mem_cons_self
    rw [List.length_erase_of_mem hx] at this
    have : 0 < D.length := List.length_pos_of_mem hx
    rw [List.length_cons]
    omega
end FD
/-! FD: how denotations are computed: lemmas for simp, loops and comprehensions by what each turn does. -/
namespace FD
/-- no table, where nothing else is said -/
instance tabNone : TabT := ⟨[]⟩
open PySem L2
@[simp] theorem toD_im {d : D} : (M.im d).toD = some d := rfl
theorem few_le' {n : Nat} (h : n ≤ 1000000) : few n = true := decide_eq_true h
@[simp] theorem few_lit {n : Nat} : few n = decide (n ≤ 1000000) := rfl
theorem bnd_eq {α β : Type} {f : EM α} {k : α → EM β} {e e1 : Env} {a : α} (h : f e = .ok a e1) : bnd f k e = k a e1 := by
  unfold bnd
  rw [h]
theorem consA_eq {f : EM D} {g : EM (List D)} {e e1 e2 : Env} {d : D} {ds : List D} (h1 : f e = .ok d e1) (h2 : g e1 = .ok ds e2) : consA f g e = .ok (d :: ds) e2 := by
  unfold consA
  rw [bnd_eq h1, bnd_eq h2]
  rfl
theorem cbE_eq {g : List D → Option D} {fs : EM (List D)} {e e1 : Env} {ds : List D} {d : D} (h1 : fs e = .ok ds e1) (h2 : g ds = some d) : cbE g fs e = .ok d e1 := by
  unfold cbE
  rw [bnd_eq h1, h2]
  rfl
theorem bin_eq {g : D → D → Option D} {fa fb : EM D} {e e1 e2 : Env} {x y z : D} (h1 : fa e = .ok x e1) (h2 : fb e1 = .ok y e2) (h3 : g x y = some z) : bin g fa fb e = .ok z e2 := by
  unfold bin
  rw [bnd_eq h1, bnd_eq h2, h3]
  rfl
theorem itE_eq {g : D → Option (List D)} {f : EM D} {e e1 : Env} {d : D} {ds : List D} (h1 : f e = .ok d e1) (h2 : g d = some ds) : itE g f e = .ok ds e1 := by
  unfold itE
  rw [bnd_eq h1, h2]
  rfl
theorem call1 {Fs : List M → FOut} {f : EM D} {e e1 : Env} {d r : D} {m : M} (h1 : f e = .ok d e1) (h2 : Fs [.im d] = .ok m [.im d]) (h3 : m.toD = some r) : callD Fs (arD f arN) e = .ok r e1 := by
  have q : callM Fs (arD f arN) e = .ok m e1 := by simp [FD.ret, FD.lif, FD.bnd, FD.var, FD.bin, FD.un, FD.tst, FD.andT, FD.orT, FD.notT, FD.andV, FD.orV, FD.notV, FD.ifE, FD.nilA, FD.consA, FD.tupE, FD.lstE, FD.seqS, FD.exprS, FD.retS, FD.retM, FD.ifS, FD.stoM, FD.setS, FD.setM, FD.gN, FD.gsNil, FD.gsCons, FD.gT, FD.goS, FD.asgS, FD.parS, FD.augS, FD.itE, FD.itA, FD.cbE, FD.slE, FD.intE, FD.arN, FD.arD, FD.arB, FD.callD, FD.callM, FD.slotsOf, FD.argM, FD.putB, FD.isIm, FD.endF, FD.backs, FD.args0, FD.defF, FD.chn, FD.lstM, FD.dtM, FD.dkM, FD.imM, FD.frzE, FD.has, FD.chk, FD.pk, FD.pkLen, FD.peekD, FD.pkL, FD.pkR, callM, arD, arN, bnd, h1, h2]
  unfold callD
  rw [bnd_eq q, h3]
  rfl
theorem call2 {Fs : List M → FOut} {f g : EM D} {e e1 e2 : Env} {d d' r : D} {m : M} (h1 : f e = .ok d e1) (h1' : g e1 = .ok d' e2) (h2 : Fs [.im d, .im d'] = .ok m [.im d, .im d']) (h3 : m.toD = some r) : callD Fs (arD f (arD g arN)) e = .ok r e2 := by
  have q : callM Fs (arD f (arD g arN)) e = .ok m e2 := by simp [FD.ret, FD.lif, FD.bnd, FD.var, FD.bin, FD.un, FD.tst, FD.andT, FD.orT, FD.notT, FD.andV, FD.orV, FD.notV, FD.ifE, FD.nilA, FD.consA, FD.tupE, FD.lstE, FD.seqS, FD.exprS, FD.retS, FD.retM, FD.ifS, FD.stoM, FD.setS, FD.setM, FD.gN, FD.gsNil, FD.gsCons, FD.gT, FD.goS, FD.asgS, FD.parS, FD.augS, FD.itE, FD.itA, FD.cbE, FD.slE, FD.intE, FD.arN, FD.arD, FD.arB, FD.callD, FD.callM, FD.slotsOf, FD.argM, FD.putB, FD.isIm, FD.endF, FD.backs, FD.args0, FD.defF, FD.chn, FD.lstM, FD.dtM, FD.dkM, FD.imM, FD.frzE, FD.has, FD.chk, FD.pk, FD.pkLen, FD.peekD, FD.pkL, FD.pkR, callM, arD, arN, bnd, h1, h1', h2]
  unfold callD
  rw [bnd_eq q, h3]
  rfl
theorem loopS_cons {t : D → EM Unit} {g : EM Flow} {d : D} {ds : List D} {e e1 e2 : Env} (h1 : t d e = .ok () e1) (h2 : g e1 = .ok .nxt e2) : loopS t g (d :: ds) e = loopS t g ds e2 := by
  rw [loopS]
  simp only [h1, h2]
theorem whileS_step {n : Nat} {c : EM Bool} {g : EM Flow} {e e1 e2 : Env} (h1 : c e = .ok true e1) (h2 : g e1 = .ok .nxt e2) : whileS (n + 1) c g e = whileS n c g e2 := by
  rw [whileS, bnd_eq h1]
  simp only [if_true, h2]
theorem whileS_end {n : Nat} {c : EM Bool} {g : EM Flow} {e e1 : Env} (h : c e = .ok false e1) : whileS (n + 1) c g e = .ok .nxt e1 := by
  rw [whileS, bnd_eq h]
  rfl
theorem run2 {n : Nat} {g : EM Flow} {d d' : D} {e' : Env} {m : M} (h : g (some (.im d) :: some (.im d') :: List.replicate n none) = .ok (.ret m) e') : defF 2 (n + 2) [] g [.im d, .im d'] = .ok m [.im d, .im d'] := by
  simp only [defF, args0, List.length_cons, List.length_nil, if_true, List.map_cons, List.map_nil, List.cons_append, List.nil_append, Nat.add_sub_cancel, Nat.zero_add, h, endF, backs]
  rfl
theorem ret_at {α : Type} {a : α} {e : Env} : FD.ret a e = .ok a e := rfl
theorem intE_eq {f : EM D} {e e1 : Env} {i : Int} (h : f e = .ok (.int i) e1) : intE f e = .ok (some i) e1 := by
  unfold intE
  rw [bnd_eq h]
  rfl
theorem slE_eq {fa : EM D} {fl fh : EM (Option Int)} {e e1 e2 e3 : Env} {d z : D} {lo hi : Option Int} (h1 : fa e = .ok d e1) (h2 : fl e1 = .ok lo e2) (h3 : fh e2 = .ok hi e3) (h4 : slD d lo hi = some z) : slE fa fl fh e = .ok z e3 := by
  unfold slE
  rw [bnd_eq h1, bnd_eq h2, bnd_eq h3, h4]
  rfl
theorem setS_eq {i : Nat} {f : EM D} {e e1 : Env} {d : D} (h : f e = .ok d e1) (hi : i < e1.length) : setS i f e = .ok .nxt (e1.set i (some (.im d))) := by
  unfold setS
  rw [bnd_eq h]
  unfold stoM
  rw [if_pos hi]
theorem tst_eq {f : EM D} {e e1 : Env} {b : Bool} (h : f e = .ok (.bool b) e1) : tst f e = .ok b e1 := by
  unfold tst
  rw [bnd_eq h]
  rfl
theorem ifS_eq {c : EM Bool} {g1 g2 : EM Flow} {e e1 : Env} {b : Bool} (h : c e = .ok b e1) : ifS c g1 g2 e = (if b then g1 else g2) e1 := by
  unfold ifS
  rw [bnd_eq h]
theorem andT_eq {a b : EM Bool} {e e1 : Env} {x : Bool} (h : a e = .ok x e1) : andT a b e = (if x then b else FD.ret false) e1 := by
  unfold andT
  rw [bnd_eq h]
theorem ret_eq {f : EM D} {e e1 : Env} {d : D} (h : f e = .ok d e1) : retS f e = .ok (.ret (.im d)) e1 := by
  unfold retS
  rw [bnd_eq h]
  rfl
/-- a sign -/
def sg (c : Nat) : Str := ⟨#[c]⟩
theorem sg_inj {a b : Nat} (h : sg a = sg b) : a = b := by
  have := congrArg Str.cps h
  simpa [sg] using this
@[simp] theorem sg_beq {a b : Nat} : (sg a == sg b) = (a == b) := by
  rw [Bool.eq_iff_iff, beq_iff_eq, beq_iff_eq]
  exact ⟨sg_inj, fun h => by rw [h]⟩
theorem star_sg : (("*" : Str)) = sg 42 := rfl
theorem first_sg : (("<" : Str)) = sg 60 := rfl
theorem last_sg : ((">" : Str)) = sg 62 := rfl
/-- four things, three things by their places -/
@[simp] theorem ix40 {a b c d : D} : ixA (.tuple [a, b, c, d]) (.int 0) = some a := rfl
@[simp] theorem ix41 {a b c d : D} : ixA (.tuple [a, b, c, d]) (.int 1) = some b := rfl
@[simp] theorem ix42 {a b c d : D} : ixA (.tuple [a, b, c, d]) (.int 2) = some c := rfl
@[simp] theorem ix43 {a b c d : D} : ixA (.tuple [a, b, c, d]) (.int 3) = some d := rfl
@[simp] theorem ix30 {a b c : D} : ixA (.tuple [a, b, c]) (.int 0) = some a := rfl
@[simp] theorem ix31 {a b c : D} : ixA (.tuple [a, b, c]) (.int 1) = some b := rfl
@[simp] theorem ix32 {a b c : D} : ixA (.tuple [a, b, c]) (.int 2) = some c := rfl
@[simp] theorem eqA_int {i j : Int} : eqA (.int i) (.int j) = some (.bool (i == j)) := rfl
@[simp] theorem eqA_str {i j : Str} : eqA (.str i) (.str j) = some (.bool (i == j)) := by
  simp [FD.ret, FD.lif, FD.bnd, FD.var, FD.bin, FD.un, FD.tst, FD.andT, FD.orT, FD.notT, FD.andV, FD.orV, FD.notV, FD.ifE, FD.nilA, FD.consA, FD.tupE, FD.lstE, FD.seqS, FD.exprS, FD.retS, FD.retM, FD.ifS, FD.stoM, FD.setS, FD.setM, FD.gN, FD.gsNil, FD.gsCons, FD.gT, FD.goS, FD.asgS, FD.parS, FD.augS, FD.itE, FD.itA, FD.cbE, FD.slE, FD.intE, FD.arN, FD.arD, FD.arB, FD.callD, FD.callM, FD.slotsOf, FD.argM, FD.putB, FD.isIm, FD.endF, FD.backs, FD.args0, FD.defF, FD.chn, FD.lstM, FD.dtM, FD.dkM, FD.imM, FD.frzE, FD.has, FD.chk, FD.pk, FD.pkLen, FD.peekD, FD.pkL, FD.pkR, eqA, eqD, eqOk, scalD, flatD, flatOf, scal, PyData.eqv]
@[simp] theorem neD_str {i j : Str} : neD (.str i) (.str j) = some (.bool (!(i == j))) := by
  simp [FD.ret, FD.lif, FD.bnd, FD.var, FD.bin, FD.un, FD.tst, FD.andT, FD.orT, FD.notT, FD.andV, FD.orV, FD.notV, FD.ifE, FD.nilA, FD.consA, FD.tupE, FD.lstE, FD.seqS, FD.exprS, FD.retS, FD.retM, FD.ifS, FD.stoM, FD.setS, FD.setM, FD.gN, FD.gsNil, FD.gsCons, FD.gT, FD.goS, FD.asgS, FD.parS, FD.augS, FD.itE, FD.itA, FD.cbE, FD.slE, FD.intE, FD.arN, FD.arD, FD.arB, FD.callD, FD.callM, FD.slotsOf, FD.argM, FD.putB, FD.isIm, FD.endF, FD.backs, FD.args0, FD.defF, FD.chn, FD.lstM, FD.dtM, FD.dkM, FD.imM, FD.frzE, FD.has, FD.chk, FD.pk, FD.pkLen, FD.peekD, FD.pkL, FD.pkR, neD, eqOk, scalD, flatD, flatOf, scal, PyData.eqv]
@[simp] theorem neD_int {i j : Int} : neD (.int i) (.int j) = some (.bool (!(i == j))) := rfl
@[simp] theorem inA2_str {x y z : Str} : inA (.str x) (.tuple [.str y, .str z]) = some (.bool (y == x || z == x)) := by
  simp [FD.ret, FD.lif, FD.bnd, FD.var, FD.bin, FD.un, FD.tst, FD.andT, FD.orT, FD.notT, FD.andV, FD.orV, FD.notV, FD.ifE, FD.nilA, FD.consA, FD.tupE, FD.lstE, FD.seqS, FD.exprS, FD.retS, FD.retM, FD.ifS, FD.stoM, FD.setS, FD.setM, FD.gN, FD.gsNil, FD.gsCons, FD.gT, FD.goS, FD.asgS, FD.parS, FD.augS, FD.itE, FD.itA, FD.cbE, FD.slE, FD.intE, FD.arN, FD.arD, FD.arB, FD.callD, FD.callM, FD.slotsOf, FD.argM, FD.putB, FD.isIm, FD.endF, FD.backs, FD.args0, FD.defF, FD.chn, FD.lstM, FD.dtM, FD.dkM, FD.imM, FD.frzE, FD.has, FD.chk, FD.pk, FD.pkLen, FD.peekD, FD.pkL, FD.pkR, inA, inD, inB, inTOk, flatD, flatAll, memD, PyData.eqv]
@[simp] theorem leI_int {i j : Int} : leI (.int i) (.int j) = some (.bool (decide (i ≤ j))) := rfl
@[simp] theorem geI_int {i j : Int} : geI (.int i) (.int j) = some (.bool (decide (j ≤ i))) := rfl
@[simp] theorem gtI_int {i j : Int} : gtI (.int i) (.int j) = some (.bool (decide (j < i))) := rfl
@[simp] theorem addD_int {i j : Int} : addD (.int i) (.int j) = some (.int (i + j)) := rfl
@[simp] theorem subD_int {i j : Int} : subD (.int i) (.int j) = some (.int (i - j)) := rfl
@[simp] theorem isiD_int {i : Int} : isiD "int" (.int i) = some (.bool true) := rfl
@[simp] theorem isiD_bi {i : Int} : isiD "bool" (.int i) = some (.bool false) := rfl
@[simp] theorem isiD_str {x : Str} : isiD "str" (.str x) = some (.bool true) := rfl
@[simp] theorem isiD_tup {x : List D} : isiD "tuple" (.tuple x) = some (.bool true) := rfl
@[simp] theorem lenD_tup {x : List D} : lenD [.tuple x] = some (.int x.length) := rfl
@[simp] theorem lenD_list {x : List D} : lenD [.list x] = some (.int x.length) := rfl
@[simp] theorem lenD_sg {c : Nat} : lenD [.str (sg c)] = some (.int 1) := rfl
@[simp] theorem addD_list {x y : List D} : addD (.list x) (.list y) = if few (x.length + y.length) then some (.list (x ++ y)) else none := rfl
@[simp] theorem addD_tup {x y : List D} : addD (.tuple x) (.tuple y) = if few (x.length + y.length) then some (.tuple (x ++ y)) else none := rfl
@[simp] theorem tupleD_list {x : List D} : tupleD [.list x] = some (.tuple x) := rfl
@[simp] theorem itD_list {x : List D} : itD (.list x) = some x := rfl
@[simp] theorem itD_tup {x : List D} : itD (.tuple x) = some x := rfl
@[simp] theorem itX_list {x : List D} : itX (.list x) = some x := rfl
@[simp] theorem itX_tup {x : List D} : itX (.tuple x) = some x := rfl
@[simp] theorem itX_dict {x : List (D × D)} : itX (.dict x) = if ktB x = true then none else some (x.map (·.1)) := rfl
/-! ### comprehensions and loops by their turns -/
theorem compL_eq {vs : List Nat} {t : D → EM Unit} {tt : EM Bool} {te : EM D} {e : Env} {f : D → Option D} : ∀ {ds : List D},
    (∀ d ∈ ds, ∃ e1, t d e = .ok () e1 ∧ ((f d = none ∧ ∃ e2, tt e1 = .ok false e2 ∧ vs.all (imAt e2) = true ∧ wipeE e2 vs = e) ∨ ∃ y, f d = some y ∧ ∃ e2 e3, tt e1 = .ok true e2 ∧ te e2 = .ok y e3 ∧ vs.all (imAt e3) = true ∧ wipeE e3 vs = e)) →
    compL vs t tt te ds e = .ok (ds.filterMap f) e
  | [], _ => rfl
  | d :: ds, h => by
    obtain ⟨e1, h1, h2⟩ := h d List.mem_cons_self
    have ih := compL_eq (ds := ds) fun d' hd => h d' (List.mem_cons_of_mem _ hd)
    unfold compL
    rw [h1]
    rcases h2 with ⟨hf, e2, a1, a2, a3⟩ | ⟨y, hf, e2, e3, a1, a2, a3, a4⟩
    · simp only [a1, a2, a3, if_true, ih, List.filterMap_cons, hf]
    · simp only [a1, a2, a3, a4, if_true, ih, List.filterMap_cons, hf]
theorem compE_eq {vs : List Nat} {fi : EM (List D)} {t : D → EM Unit} {tt : EM Bool} {te : EM D} {e e0 : Env} {f : D → Option D} {ds : List D} (hi : fi e = .ok ds e0) (hw : vs.all (imAt e0) = true) (hb : backE (wipeE e0 vs) e0 vs = e0) (hw2 : vs.all (imAt (wipeE e0 vs)) = true) (hl : ds.length ≤ 1000000)
    (h : ∀ d ∈ ds, ∃ e1, t d (wipeE e0 vs) = .ok () e1 ∧ ((f d = none ∧ ∃ e2, tt e1 = .ok false e2 ∧ vs.all (imAt e2) = true ∧ wipeE e2 vs = wipeE e0 vs) ∨ ∃ y, f d = some y ∧ ∃ e2 e3, tt e1 = .ok true e2 ∧ te e2 = .ok y e3 ∧ vs.all (imAt e3) = true ∧ wipeE e3 vs = wipeE e0 vs)) :
    compE vs fi t tt te e = .ok (.list (ds.filterMap f)) e0 := by
  unfold compE bnd
  rw [hi]
  simp only [hw, if_true, compL_eq h, hw2, Bool.and_true]
  rw [if_pos (few_le' (Nat.le_trans (List.length_filterMap_le _ _) hl)), hb]
theorem wipe1 {e : Env} {s : Nat} {x : Option M} : wipeE (e.set s x) [s] = e.set s none := by
  show (e.set s x).set s none = _
  rw [List.set_set]
theorem wipe1' {e : Env} {s : Nat} : wipeE e [s] = e.set s none := rfl
theorem back1 {e : Env} {s : Nat} : backE (e.set s none) e [s] = e := by
  apply List.ext_getElem?
  intro i
  by_cases h : i ∈ [s]
  · rw [backE_in (by rw [List.length_set]) h]
  · rw [backE_out h]
    simp at h
    rw [List.getElem?_set_ne (Ne.symm h)]
theorem imAt_set {e : Env} {s : Nat} {d : D} : imAt (e.set s (some (.im d))) s = true ∧ imAt (e.set s none) s = true := by
  unfold imAt
  by_cases h : s < e.length
  · rw [List.getElem?_set_self h, List.getElem?_set_self h]
    exact ⟨rfl, rfl⟩
  · rw [List.getElem?_eq_none (by rw [List.length_set]; omega), List.getElem?_eq_none (by rw [List.length_set]; omega)]
    exact ⟨rfl, rfl⟩
/-- a comprehension with one name -/
theorem comp1 {s : Nat} {fi : EM (List D)} {tt : EM Bool} {te : EM D} {e : Env} {ds : List D} {b : D → Bool} {f : D → D} (hs : s < e.length) (him : imAt e s = true) (hi : fi e = .ok ds e) (hl : ds.length ≤ 1000000)
    (h : ∀ d ∈ ds, tt (e.set s (some (.im d))) = .ok (b d) (e.set s (some (.im d))) ∧ (b d = true → te (e.set s (some (.im d))) = .ok (f d) (e.set s (some (.im d))))) : compE [s] fi (gN s) tt te e = .ok (.list ((ds.filter b).map f)) e := by
  have q := compE_eq (vs := [s]) (t := gN s) (tt := tt) (te := te) (f := fun d => if b d then some (f d) else none) hi (by simp [FD.ret, FD.lif, FD.bnd, FD.var, FD.bin, FD.un, FD.tst, FD.andT, FD.orT, FD.notT, FD.andV, FD.orV, FD.notV, FD.ifE, FD.nilA, FD.consA, FD.tupE, FD.lstE, FD.seqS, FD.exprS, FD.retS, FD.retM, FD.ifS, FD.stoM, FD.setS, FD.setM, FD.gN, FD.gsNil, FD.gsCons, FD.gT, FD.goS, FD.asgS, FD.parS, FD.augS, FD.itE, FD.itA, FD.cbE, FD.slE, FD.intE, FD.arN, FD.arD, FD.arB, FD.callD, FD.callM, FD.slotsOf, FD.argM, FD.putB, FD.isIm, FD.endF, FD.backs, FD.args0, FD.defF, FD.chn, FD.lstM, FD.dtM, FD.dkM, FD.imM, FD.frzE, FD.has, FD.chk, FD.pk, FD.pkLen, FD.peekD, FD.pkL, FD.pkR, him]) (by rw [wipe1']; exact back1) (by rw [wipe1']; simp [FD.ret, FD.lif, FD.bnd, FD.var, FD.bin, FD.un, FD.tst, FD.andT, FD.orT, FD.notT, FD.andV, FD.orV, FD.notV, FD.ifE, FD.nilA, FD.consA, FD.tupE, FD.lstE, FD.seqS, FD.exprS, FD.retS, FD.retM, FD.ifS, FD.stoM, FD.setS, FD.setM, FD.gN, FD.gsNil, FD.gsCons, FD.gT, FD.goS, FD.asgS, FD.parS, FD.augS, FD.itE, FD.itA, FD.cbE, FD.slE, FD.intE, FD.arN, FD.arD, FD.arB, FD.callD, FD.callM, FD.slotsOf, FD.argM, FD.putB, FD.isIm, FD.endF, FD.backs, FD.args0, FD.defF, FD.chn, FD.lstM, FD.dtM, FD.dkM, FD.imM, FD.frzE, FD.has, FD.chk, FD.pk, FD.pkLen, FD.peekD, FD.pkL, FD.pkR, (imAt_set (d := .none)).2]) hl ?_
  · rw [q]
    congr 2
    clear q hi h hl
    induction ds with
    | nil => rfl
    | cons d ds ih =>
      rw [List.filterMap_cons, List.filter_cons]
      cases b d <;> simp [FD.ret, FD.lif, FD.bnd, FD.var, FD.bin, FD.un, FD.tst, FD.andT, FD.orT, FD.notT, FD.andV, FD.orV, FD.notV, FD.ifE, FD.nilA, FD.consA, FD.tupE, FD.lstE, FD.seqS, FD.exprS, FD.retS, FD.retM, FD.ifS, FD.stoM, FD.setS, FD.setM, FD.gN, FD.gsNil, FD.gsCons, FD.gT, FD.goS, FD.asgS, FD.parS, FD.augS, FD.itE, FD.itA, FD.cbE, FD.slE, FD.intE, FD.arN, FD.arD, FD.arB, FD.callD, FD.callM, FD.slotsOf, FD.argM, FD.putB, FD.isIm, FD.endF, FD.backs, FD.args0, FD.defF, FD.chn, FD.lstM, FD.dtM, FD.dkM, FD.imM, FD.frzE, FD.has, FD.chk, FD.pk, FD.pkLen, FD.peekD, FD.pkL, FD.pkR, ih]
  · intro d hd
    obtain ⟨h1, h2⟩ := h d hd
    refine ⟨e.set s (some (.im d)), ?_, ?_⟩
    · rw [wipe1']
      unfold gN
      rw [if_pos (by rw [List.length_set]; exact hs), List.set_set]
    · cases hb : b d with
      | false =>
        rw [hb] at h1
        exact .inl ⟨by simp [FD.ret, FD.lif, FD.bnd, FD.var, FD.bin, FD.un, FD.tst, FD.andT, FD.orT, FD.notT, FD.andV, FD.orV, FD.notV, FD.ifE, FD.nilA, FD.consA, FD.tupE, FD.lstE, FD.seqS, FD.exprS, FD.retS, FD.retM, FD.ifS, FD.stoM, FD.setS, FD.setM, FD.gN, FD.gsNil, FD.gsCons, FD.gT, FD.goS, FD.asgS, FD.parS, FD.augS, FD.itE, FD.itA, FD.cbE, FD.slE, FD.intE, FD.arN, FD.arD, FD.arB, FD.callD, FD.callM, FD.slotsOf, FD.argM, FD.putB, FD.isIm, FD.endF, FD.backs, FD.args0, FD.defF, FD.chn, FD.lstM, FD.dtM, FD.dkM, FD.imM, FD.frzE, FD.has, FD.chk, FD.pk, FD.pkLen, FD.peekD, FD.pkL, FD.pkR, hb], _, h1, by simp [FD.ret, FD.lif, FD.bnd, FD.var, FD.bin, FD.un, FD.tst, FD.andT, FD.orT, FD.notT, FD.andV, FD.orV, FD.notV, FD.ifE, FD.nilA, FD.consA, FD.tupE, FD.lstE, FD.seqS, FD.exprS, FD.retS, FD.retM, FD.ifS, FD.stoM, FD.setS, FD.setM, FD.gN, FD.gsNil, FD.gsCons, FD.gT, FD.goS, FD.asgS, FD.parS, FD.augS, FD.itE, FD.itA, FD.cbE, FD.slE, FD.intE, FD.arN, FD.arD, FD.arB, FD.callD, FD.callM, FD.slotsOf, FD.argM, FD.putB, FD.isIm, FD.endF, FD.backs, FD.args0, FD.defF, FD.chn, FD.lstM, FD.dtM, FD.dkM, FD.imM, FD.frzE, FD.has, FD.chk, FD.pk, FD.pkLen, FD.peekD, FD.pkL, FD.pkR, imAt_set.1], by rw [wipe1]; rfl⟩
      | true =>
        rw [hb] at h1
        exact .inr ⟨f d, by simp [FD.ret, FD.lif, FD.bnd, FD.var, FD.bin, FD.un, FD.tst, FD.andT, FD.orT, FD.notT, FD.andV, FD.orV, FD.notV, FD.ifE, FD.nilA, FD.consA, FD.tupE, FD.lstE, FD.seqS, FD.exprS, FD.retS, FD.retM, FD.ifS, FD.stoM, FD.setS, FD.setM, FD.gN, FD.gsNil, FD.gsCons, FD.gT, FD.goS, FD.asgS, FD.parS, FD.augS, FD.itE, FD.itA, FD.cbE, FD.slE, FD.intE, FD.arN, FD.arD, FD.arB, FD.callD, FD.callM, FD.slotsOf, FD.argM, FD.putB, FD.isIm, FD.endF, FD.backs, FD.args0, FD.defF, FD.chn, FD.lstM, FD.dtM, FD.dkM, FD.imM, FD.frzE, FD.has, FD.chk, FD.pk, FD.pkLen, FD.peekD, FD.pkL, FD.pkR, hb], _, _, h1, h2 hb, by simp [FD.ret, FD.lif, FD.bnd, FD.var, FD.bin, FD.un, FD.tst, FD.andT, FD.orT, FD.notT, FD.andV, FD.orV, FD.notV, FD.ifE, FD.nilA, FD.consA, FD.tupE, FD.lstE, FD.seqS, FD.exprS, FD.retS, FD.retM, FD.ifS, FD.stoM, FD.setS, FD.setM, FD.gN, FD.gsNil, FD.gsCons, FD.gT, FD.goS, FD.asgS, FD.parS, FD.augS, FD.itE, FD.itA, FD.cbE, FD.slE, FD.intE, FD.arN, FD.arD, FD.arB, FD.callD, FD.callM, FD.slotsOf, FD.argM, FD.putB, FD.isIm, FD.endF, FD.backs, FD.args0, FD.defF, FD.chn, FD.lstM, FD.dtM, FD.dkM, FD.imM, FD.frzE, FD.has, FD.chk, FD.pk, FD.pkLen, FD.peekD, FD.pkL, FD.pkR, imAt_set.1], by rw [wipe1]; rfl⟩
theorem compL2_eq {vs vs1 : List Nat} {t t1 : D → EM Unit} {tt tt1 : EM Bool} {fi1 : EM (List D)} {te : EM D} {e : Env} {f : D → List D} : ∀ {ds : List D},
    (∀ d ∈ ds, ∃ e1 e2 ds1 e3 e4, t d e = .ok () e1 ∧ tt e1 = .ok true e2 ∧ fi1 e2 = .ok ds1 e3 ∧ vs1.all (imAt e3) = true ∧ compL vs1 t1 tt1 te ds1 (wipeE e3 vs1) = .ok (f d) e4 ∧ vs.all (imAt e4) = true ∧ wipeE e4 vs = e) →
    compL2 vs vs1 t tt fi1 t1 tt1 te ds e = .ok (ds.flatMap f) e
  | [], _ => rfl
  | d :: ds, h => by
    obtain ⟨e1, e2, ds1, e3, e4, a1, a2, a3, a4, a5, a6, a7⟩ := h d List.mem_cons_self
    have ih := compL2_eq (ds := ds) fun d' hd => h d' (List.mem_cons_of_mem _ hd)
    unfold compL2
    simp only [a1, a2, a3, a4, a5, a6, a7, if_true, ih, List.flatMap_cons]
theorem compE2_eq {vs vs1 : List Nat} {fi fi1 : EM (List D)} {t t1 : D → EM Unit} {tt tt1 : EM Bool} {te : EM D} {e e0 : Env} {f : D → List D} {ds : List D} (hi : fi e = .ok ds e0) (hw : vs.all (imAt e0) = true) (hb : backE (wipeE e0 vs) e0 vs = e0) (hw2 : vs.all (imAt (wipeE e0 vs)) = true) (hl : (ds.flatMap f).length ≤ 1000000)
    (h : ∀ d ∈ ds, ∃ e1 e2 ds1 e3 e4, t d (wipeE e0 vs) = .ok () e1 ∧ tt e1 = .ok true e2 ∧ fi1 e2 = .ok ds1 e3 ∧ vs1.all (imAt e3) = true ∧ compL vs1 t1 tt1 te ds1 (wipeE e3 vs1) = .ok (f d) e4 ∧ vs.all (imAt e4) = true ∧ wipeE e4 vs = wipeE e0 vs) :
    compE2 vs vs1 fi t tt fi1 t1 tt1 te e = .ok (.list (ds.flatMap f)) e0 := by
  unfold compE2 bnd
  rw [hi]
  simp only [hw, if_true, compL2_eq h, hw2, Bool.and_true]
  rw [if_pos (few_le' hl), hb]
/-- a for that goes through, each turn leaving the same but the targets -/
theorem loopS_inv {t : D → EM Unit} {g : EM Flow} (I : List D → Env → Prop) : ∀ {ds : List D} {e : Env}, I ds e → (∀ d r e, (∃ l, ds = l ++ d :: r) → I (d :: r) e → ∃ e1 e2, t d e = .ok () e1 ∧ (g e1 = .ok .nxt e2 ∨ g e1 = .ok .cnt e2) ∧ I r e2) → ∃ e', loopS t g ds e = .ok .nxt e' ∧ I [] e'
  | [], e, h, _ => ⟨e, rfl, h⟩
  | d :: ds, e, h, st => by
    obtain ⟨e1, e2, a1, a2, a3⟩ := st d ds e ⟨[], rfl⟩ h
    obtain ⟨e', b1, b2⟩ := loopS_inv I (ds := ds) a3 fun d' r e' ⟨l, hl⟩ => st d' r e' ⟨d :: l, by rw [hl]; rfl⟩
    refine ⟨e', ?_, b2⟩
    unfold loopS
    rw [a1]
    rcases a2 with a2 | a2 <;> simp only [a2, b1]
theorem seqS_nxt {g1 g2 : EM Flow} {e e' : Env} (h : g1 e = .ok .nxt e') : seqS g1 g2 e = g2 e' := by
  unfold seqS
  rw [h]
theorem seqS_ret {g1 g2 : EM Flow} {e e' : Env} {m : M} (h : g1 e = .ok (.ret m) e') : seqS g1 g2 e = .ok (.ret m) e' := by
  unfold seqS
  rw [h]
/-- what the source of a for gives -/
theorem forS_eq {fi : EM (List D)} {t : D → EM Unit} {g : EM Flow} {e e0 : Env} {ds : List D} (h : fi e = .ok ds e0) : forS fi t g e = loopS t g ds e0 := by
  unfold forS bnd
  rw [h]
end FD
/-! FD: denotations run forward: what is wanted behind a part, as a question at its beginning; simp goes step by step. -/
namespace FD
open PySem L2
abbrev EX := Str → List (Str × D) → Env → Prop
def wp {α : Type} (f : EM α) (e : Env) (Q : α → Env → Prop) (E : EX) : Prop := match f e with
  | .ok a e' => Q a e'
  | .ex C fs e' => E C fs e'
  | .no => False
def wpo {α : Type} (o : Option α) (Q : α → Env → Prop) (e : Env) : Prop := match o with
  | some a => Q a e
  | none => False
@[irreducible] def wpR (o : FOut) (K : M → List M → Prop) : Prop := match o with
  | .ok r ms => K r ms
  | _ => False
theorem wpR_eq {o : FOut} {r : M} {ms : List M} (h : wpR o fun x y => x = r ∧ y = ms) : o = .ok r ms := by
  unfold wpR at h
  split at h
  · rw [h.1, h.2]
  · exact h.elim
theorem wpR_ex {o : FOut} {K : M → List M → Prop} (h : wpR o K) : ∃ r ms, o = .ok r ms ∧ K r ms := by
  unfold wpR at h
  split at h
  · exact ⟨_, _, rfl, h⟩
  · exact h.elim
theorem wp_mono {α : Type} {f : EM α} {e : Env} {Q Q' : α → Env → Prop} {E : EX} (h : wp f e Q E) (w : ∀ a e', Q a e' → Q' a e') : wp f e Q' E := by
  unfold wp at h ⊢
  split at h
  · exact w _ _ h
  · exact h
  · exact h
section
variable {α β : Type} {Q : α → Env → Prop} {E : EX} {e : Env}
@[simp] theorem wp_bnd {f : EM β} {k : β → EM α} : wp (bnd f k) e Q E = wp f e (fun a e1 => wp (k a) e1 Q E) E := by
  unfold wp bnd
  cases f e <;> rfl
@[simp] theorem wp_ret {a : α} : wp (ret a) e Q E = Q a e := rfl
@[simp] theorem wp_lif {o : Option α} : wp (lif o) e Q E = wpo o Q e := by cases o <;> rfl
@[simp] theorem wpo_some {a : α} : wpo (some a) Q e = Q a e := rfl
@[simp] theorem wpo_none : wpo (none : Option α) Q e = False := rfl
@[simp] theorem wpo_if {c : Prop} [Decidable c] {a : α} : wpo (if c then some a else none) Q e = (c ∧ Q a e) := by
  by_cases h : c
  · rw [if_pos h]; simp [wpo, h]
  · rw [if_neg h]; simp [wpo, h]
@[simp] theorem wpR_ok {r : M} {ms : List M} {K : M → List M → Prop} : wpR (.ok r ms) K = K r ms := by unfold wpR; rfl
end
section
variable {Q : D → Env → Prop} {QB : Bool → Env → Prop} {QL : List D → Env → Prop} {QO : Option Int → Env → Prop} {QA : List AR → Env → Prop} {QM : M → Env → Prop} {QS : Flow → Env → Prop} {QU : Unit → Env → Prop} {E : EX} {e : Env}
variable {f fa fb fc : EM D} {g : D → D → Option D} {t ta tb : EM Bool} {fs : EM (List D)}
/-! ### values -/
def kVar (i : Nat) (Q : D → Env → Prop) (e : Env) : Option (Option M) → Prop
  | some (some (.im d)) => Q d e
  | some (some m) => wpo m.toD (fun d _ => Q d (e.set i (some (.im d)))) e
  | _ => False
@[simp] theorem wp_var {i : Nat} : wp (var i) e Q E = kVar i Q e e[i]? := by
  unfold wp var
  cases h : e[i]? with
  | none => rfl
  | some o => cases o with
    | none => rfl
    | some m =>
      cases m with
      | im d => rfl
      | ls ms => simp only [kVar]; cases M.toD (.ls ms) <;> rfl
      | dk ms => simp only [kVar]; cases M.toD (.dk ms) <;> rfl
      | dt ms => simp only [kVar]; cases M.toD (.dt ms) <;> rfl
      | ob C ms => simp only [kVar]; cases M.toD (.ob C ms) <;> rfl
      | gone => rfl
      | tp _ => rfl
      | fz _ _ => rfl
      | xc _ _ => rfl
      | lm _ => rfl
      | kt _ => rfl
@[simp] theorem kVar_im {i : Nat} {d : D} : kVar i Q e (some (some (.im d))) = Q d e := rfl
def kFrz (i : Nat) (Q : D → Env → Prop) : D → Env → Prop := fun d e => Q d (e.set i (some (.im d)))
@[simp] theorem kFrz_at {i : Nat} {d : D} : kFrz i Q d e = Q d (e.set i (some (.im d))) := rfl
@[simp] theorem kVar_ls {i : Nat} {ms : List M} : kVar i Q e (some (some (.ls ms))) = wpo (M.ls ms).toD (kFrz i Q) e := by unfold kVar wpo kFrz; rfl
@[simp] theorem kVar_dk {i : Nat} {ms : List (Key × M)} : kVar i Q e (some (some (.dk ms))) = wpo (M.dk ms).toD (kFrz i Q) e := by unfold kVar wpo kFrz; rfl
@[simp] theorem kVar_dt {i : Nat} {ms : List (List Key × M)} : kVar i Q e (some (some (.dt ms))) = wpo (M.dt ms).toD (kFrz i Q) e := by unfold kVar wpo kFrz; rfl
def kBin1 (g : D → D → Option D) (fb : EM D) (Q : D → Env → Prop) (E : EX) : D → Env → Prop := fun x e1 => wp fb e1 (fun y e2 => wpo (g x y) Q e2) E
def kBin2 (g : D → D → Option D) (x : D) (Q : D → Env → Prop) : D → Env → Prop := fun y e2 => wpo (g x y) Q e2
@[simp] theorem wp_bin : wp (bin g fa fb) e Q E = wp fa e (kBin1 g fb Q E) E := by
  unfold bin; rw [wp_bnd]; congr; funext x e1; rw [wp_bnd]; unfold kBin1; congr; funext y e2; rw [wp_lif]
@[simp] theorem kBin1_at {x : D} {e1 : Env} : kBin1 g fb Q E x e1 = wp fb e1 (kBin2 g x Q) E := rfl
@[simp] theorem kBin2_at {x y : D} {e2 : Env} : kBin2 g x Q y e2 = wpo (g x y) Q e2 := rfl
def kUn (g : D → Option D) (Q : D → Env → Prop) : D → Env → Prop := fun x e1 => wpo (g x) Q e1
@[simp] theorem wp_un {g : D → Option D} : wp (un g fa) e Q E = wp fa e (kUn g Q) E := by
  unfold un; rw [wp_bnd]; congr; funext x e1; rw [wp_lif]; rfl
@[simp] theorem kUn_at {g : D → Option D} {x : D} {e1 : Env} : kUn g Q x e1 = wpo (g x) Q e1 := rfl
def kTst (Q : Bool → Env → Prop) : D → Env → Prop := fun d e => match d with
  | .bool b => Q b e
  | _ => False
@[simp] theorem wp_tst : wp (tst f) e QB E = wp f e (kTst QB) E := by
  unfold tst; rw [wp_bnd]; congr; funext x e1; cases x <;> rfl
@[simp] theorem kTst_at {b : Bool} {e1 : Env} : kTst QB (.bool b) e1 = QB b e1 := rfl
def kIf {α : Type} (x y : EM α) (Q : α → Env → Prop) (E : EX) : Bool → Env → Prop := fun b e => if b then wp x e Q E else wp y e Q E
@[simp] theorem kIf_t {α : Type} {x y : EM α} {Q : α → Env → Prop} {e1 : Env} : kIf x y Q E true e1 = wp x e1 Q E := rfl
@[simp] theorem kIf_f {α : Type} {x y : EM α} {Q : α → Env → Prop} {e1 : Env} : kIf x y Q E false e1 = wp y e1 Q E := rfl
theorem wp_kif {α : Type} {x y : EM α} {Q : α → Env → Prop} {b : Bool} {e1 : Env} : wp (if b then x else y) e1 Q E = kIf x y Q E b e1 := by cases b <;> rfl
@[simp] theorem wp_andT : wp (andT ta tb) e QB E = wp ta e (kIf tb (ret false) QB E) E := by
  unfold andT; rw [wp_bnd]; congr; funext x e1; exact wp_kif
@[simp] theorem wp_orT : wp (orT ta tb) e QB E = wp ta e (kIf (ret true) tb QB E) E := by
  unfold orT; rw [wp_bnd]; congr; funext x e1; exact wp_kif
def kNot (Q : Bool → Env → Prop) : Bool → Env → Prop := fun b e => Q (!b) e
@[simp] theorem wp_notT : wp (notT ta) e QB E = wp ta e (kNot QB) E := by
  unfold notT; rw [wp_bnd]; rfl
@[simp] theorem kNot_at {b : Bool} {e1 : Env} : kNot QB b e1 = QB (!b) e1 := rfl
def kBV (x y : EM D) (Q : D → Env → Prop) (E : EX) : D → Env → Prop := fun d e => match d with
  | .bool b => kIf x y Q E b e
  | _ => False
@[simp] theorem kBV_at {x y : EM D} {b : Bool} {e1 : Env} : kBV x y Q E (.bool b) e1 = kIf x y Q E b e1 := rfl
@[simp] theorem wp_andV : wp (andV fa fb) e Q E = wp fa e (kBV fb (ret (.bool false)) Q E) E := by
  unfold andV; rw [wp_bnd]; congr; funext x e1; cases x <;> first | rfl | (rename_i b; cases b <;> rfl)
@[simp] theorem wp_orV : wp (orV fa fb) e Q E = wp fa e (kBV (ret (.bool true)) fb Q E) E := by
  unfold orV; rw [wp_bnd]; congr; funext x e1; cases x <;> first | rfl | (rename_i b; cases b <;> rfl)
def kNotV (Q : D → Env → Prop) : D → Env → Prop := fun d e => match d with
  | .bool b => Q (.bool (!b)) e
  | _ => False
@[simp] theorem wp_notV : wp (notV fa) e Q E = wp fa e (kNotV Q) E := by
  unfold notV; rw [wp_bnd]; congr; funext x e1; cases x <;> rfl
@[simp] theorem kNotV_at {b : Bool} {e1 : Env} : kNotV Q (.bool b) e1 = Q (.bool (!b)) e1 := rfl
@[simp] theorem wp_ifE : wp (ifE t fa fb) e Q E = wp t e (kIf fa fb Q E) E := by
  unfold ifE; rw [wp_bnd]; congr; funext x e1; exact wp_kif
def kChn1 (g g' : D → D → Option D) (fb fc : EM D) (Q : D → Env → Prop) (E : EX) : D → Env → Prop := fun x e1 => wp fb e1 (fun y e2 => wpo (g x y) (kBV (fun e => bnd fc (fun z => lif (g' y z)) e) (ret (.bool false)) Q E) e2) E
def kChn2 (g g' : D → D → Option D) (fc : EM D) (x : D) (Q : D → Env → Prop) (E : EX) : D → Env → Prop := fun y e2 => wpo (g x y) (kBV (fun e => bnd fc (fun z => lif (g' y z)) e) (ret (.bool false)) Q E) e2
@[simp] theorem wp_chn {g g' : D → D → Option D} : wp (chn g g' fa fb fc) e Q E = wp fa e (kChn1 g g' fb fc Q E) E := by
  unfold chn; rw [wp_bnd]; congr; funext x e1; rw [wp_bnd]; unfold kChn1; congr; funext y e2; rw [wp_bnd, wp_lif]; congr; funext k e3
  cases k <;> first | rfl | (rename_i b; cases b <;> rfl)
@[simp] theorem kChn1_at {g g' : D → D → Option D} {x : D} {e1 : Env} : kChn1 g g' fb fc Q E x e1 = wp fb e1 (kChn2 g g' fc x Q E) E := rfl
@[simp] theorem kChn2_at {g g' : D → D → Option D} {x y : D} {e1 : Env} : kChn2 g g' fc x Q E y e1 = wpo (g x y) (kBV (bin g' (ret y) fc) (ret (.bool false)) Q E) e1 := rfl
/-! ### rows -/
@[simp] theorem wp_nilA : wp nilA e QL E = QL [] e := rfl
def kCons1 (fs : EM (List D)) (Q : List D → Env → Prop) (E : EX) : D → Env → Prop := fun d e1 => wp fs e1 (fun ds e2 => Q (d :: ds) e2) E
def kCons2 (d : D) (Q : List D → Env → Prop) : List D → Env → Prop := fun ds e2 => Q (d :: ds) e2
@[simp] theorem wp_consA : wp (consA f fs) e QL E = wp f e (kCons1 fs QL E) E := by
  unfold consA; rw [wp_bnd]; congr; funext x e1; rw [wp_bnd]; rfl
@[simp] theorem kCons1_at {d : D} {e1 : Env} : kCons1 fs QL E d e1 = wp fs e1 (kCons2 d QL) E := rfl
@[simp] theorem kCons2_at {d : D} {ds : List D} {e1 : Env} : kCons2 d QL ds e1 = QL (d :: ds) e1 := rfl
def kRow (g : List D → Option D) (Q : D → Env → Prop) : List D → Env → Prop := fun ds e => wpo (g ds) Q e
@[simp] theorem kRow_at {g : List D → Option D} {ds : List D} {e1 : Env} : kRow g Q ds e1 = wpo (g ds) Q e1 := rfl
def mkT (ds : List D) : Option D := if few ds.length then some (.tuple ds) else none
def mkL (ds : List D) : Option D := if few ds.length then some (.list ds) else none
@[simp] theorem wp_tupE : wp (tupE fs) e Q E = wp fs e (kRow mkT Q) E := by
  unfold tupE; rw [wp_bnd]; congr; funext x e1; rw [wp_lif]; rfl
@[simp] theorem wp_lstE : wp (lstE fs) e Q E = wp fs e (kRow mkL Q) E := by
  unfold lstE; rw [wp_bnd]; congr; funext x e1; rw [wp_lif]; rfl
@[simp] theorem wpo_mkT {ds : List D} : wpo (mkT ds) Q e = (ds.length ≤ 1000000 ∧ Q (.tuple ds) e) := by
  unfold mkT; rw [wpo_if]; simp [few]
@[simp] theorem wpo_mkL {ds : List D} : wpo (mkL ds) Q e = (ds.length ≤ 1000000 ∧ Q (.list ds) e) := by
  unfold mkL; rw [wpo_if]; simp [few]
@[simp] theorem wp_cbE {g : List D → Option D} : wp (cbE g fs) e Q E = wp fs e (kRow g Q) E := by
  unfold cbE; rw [wp_bnd]; congr; funext x e1; rw [wp_lif]; rfl
def kInt (Q : Option Int → Env → Prop) : D → Env → Prop := fun d e => match d with
  | .int i => Q (some i) e
  | _ => False
@[simp] theorem wp_intE : wp (intE f) e QO E = wp f e (kInt QO) E := by
  unfold intE; rw [wp_bnd]; congr; funext x e1; cases x <;> rfl
@[simp] theorem kInt_at {i : Int} {e1 : Env} : kInt QO (.int i) e1 = QO (some i) e1 := rfl
def kSl1 (fl fh : EM (Option Int)) (Q : D → Env → Prop) (E : EX) : D → Env → Prop := fun d e1 => wp fl e1 (fun lo e2 => wp fh e2 (fun hi e3 => wpo (slD d lo hi) Q e3) E) E
def kSl2 (fh : EM (Option Int)) (d : D) (Q : D → Env → Prop) (E : EX) : Option Int → Env → Prop := fun lo e2 => wp fh e2 (fun hi e3 => wpo (slD d lo hi) Q e3) E
def kSl3 (d : D) (lo : Option Int) (Q : D → Env → Prop) : Option Int → Env → Prop := fun hi e3 => wpo (slD d lo hi) Q e3
@[simp] theorem wp_slE {fl fh : EM (Option Int)} : wp (slE fa fl fh) e Q E = wp fa e (kSl1 fl fh Q E) E := by
  unfold slE; rw [wp_bnd]; congr; funext x e1; rw [wp_bnd]; unfold kSl1; congr; funext x e1; rw [wp_bnd]; congr; funext x e1; rw [wp_lif]
@[simp] theorem kSl1_at {fl fh : EM (Option Int)} {d : D} {e1 : Env} : kSl1 fl fh Q E d e1 = wp fl e1 (kSl2 fh d Q E) E := rfl
@[simp] theorem kSl2_at {fh : EM (Option Int)} {d : D} {lo : Option Int} {e1 : Env} : kSl2 fh d Q E lo e1 = wp fh e1 (kSl3 d lo Q) E := rfl
@[simp] theorem kSl3_at {d : D} {lo hi : Option Int} {e1 : Env} : kSl3 d lo Q hi e1 = wpo (slD d lo hi) Q e1 := rfl
def kIt (g : D → Option (List D)) (Q : List D → Env → Prop) : D → Env → Prop := fun d e => wpo (g d) Q e
@[simp] theorem wp_itE {g : D → Option (List D)} : wp (itE g f) e QL E = wp f e (kIt g QL) E := by
  unfold itE; rw [wp_bnd]; congr; funext x e1; rw [wp_lif]; rfl
@[simp] theorem kIt_at {g : D → Option (List D)} {d : D} {e1 : Env} : kIt g QL d e1 = wpo (g d) QL e1 := rfl
def kItA (g : List D → Option (List D)) (Q : List D → Env → Prop) : List D → Env → Prop := fun d e => wpo (g d) Q e
@[simp] theorem wp_itA {g : List D → Option (List D)} : wp (itA g fs) e QL E = wp fs e (kItA g QL) E := by
  unfold itA; rw [wp_bnd]; congr; funext x e1; rw [wp_lif]; rfl
@[simp] theorem kItA_at {g : List D → Option (List D)} {d : List D} {e1 : Env} : kItA g QL d e1 = wpo (g d) QL e1 := rfl
/-! ### calls -/
@[simp] theorem wp_arN : wp arN e QA E = QA [] e := rfl
def kAr1 (fr : EM (List AR)) (Q : List AR → Env → Prop) (E : EX) : D → Env → Prop := fun d e1 => wp fr e1 (fun as e2 => Q (.d d :: as) e2) E
def kAr2 (a : AR) (Q : List AR → Env → Prop) : List AR → Env → Prop := fun as e2 => Q (a :: as) e2
@[simp] theorem wp_arD {fr : EM (List AR)} : wp (arD f fr) e QA E = wp f e (kAr1 fr QA E) E := by
  unfold arD; rw [wp_bnd]; congr; funext x e1; rw [wp_bnd]; rfl
@[simp] theorem kAr1_at {fr : EM (List AR)} {d : D} {e1 : Env} : kAr1 fr QA E d e1 = wp fr e1 (kAr2 (.d d) QA) E := rfl
@[simp] theorem kAr2_at {a : AR} {as : List AR} {e1 : Env} : kAr2 a QA as e1 = QA (a :: as) e1 := rfl
@[simp] theorem wp_arB {s : Nat} {fr : EM (List AR)} : wp (arB s fr) e QA E = ((∃ m, e[s]? = some (some m)) ∧ wp fr e (kAr2 (.b s) QA) E) := by
  unfold arB wp
  cases h : e[s]? with
  | none => simp [h]
  | some o => cases o with
    | none => simp [h]
    | some m =>
      simp only [bnd, h]
      cases fr e <;> simp [ret, kAr2]
def kKw1 (n m : Nat) (ix : List (Nat ⊕ Nat)) (ds : List D) (frk : EM (List AR)) (Q : List AR → Env → Prop) (E : EX) : List AR → Env → Prop := fun as e1 => wp frk e1 (fun bs e2 => as.length = n ∧ bs.length = m ∧ Q (pick (as ++ bs) (ds.map .d) ix) e2) E
def kKw2 (n m : Nat) (ix : List (Nat ⊕ Nat)) (ds : List D) (as : List AR) (Q : List AR → Env → Prop) : List AR → Env → Prop := fun bs e2 => as.length = n ∧ bs.length = m ∧ Q (pick (as ++ bs) (ds.map .d) ix) e2
@[simp] theorem wp_kwA {n m : Nat} {ix : List (Nat ⊕ Nat)} {ds : List D} {fr frk : EM (List AR)} : wp (kwA n m ix ds fr frk) e QA E = wp fr e (kKw1 n m ix ds frk QA E) E := by
  unfold kwA; rw [wp_bnd]; congr; funext x e1; rw [wp_bnd]; unfold kKw1; congr; funext y e2; rw [wp_lif, wpo_if]; simp [and_assoc]
@[simp] theorem kKw1_at {n m : Nat} {ix : List (Nat ⊕ Nat)} {ds : List D} {frk : EM (List AR)} {as : List AR} {e1 : Env} : kKw1 n m ix ds frk QA E as e1 = wp frk e1 (kKw2 n m ix ds as QA) E := rfl
@[simp] theorem kKw2_at {n m : Nat} {ix : List (Nat ⊕ Nat)} {ds : List D} {as bs : List AR} {e1 : Env} : kKw2 n m ix ds as QA bs e1 = (as.length = n ∧ bs.length = m ∧ QA (pick (as ++ bs) (ds.map .d) ix) e1) := rfl
def kCall (Fs : List M → FOut) (Q : M → Env → Prop) : List AR → Env → Prop := fun as e => (slotsOf as).Nodup ∧ ∃ ms, argM e as = some ms ∧ wpR (Fs ms) fun r ms' => ms'.length = ms.length ∧ Q r (putB e as ms')
def kGo (as : List AR) (n : Nat) (Q : M → Env → Prop) (e : Env) : M → List M → Prop := fun r ms' => ms'.length = n ∧ Q r (putB e as ms')
def kCall2 (Fs : List M → FOut) (as : List AR) (Q : M → Env → Prop) (e : Env) : Option (List M) → Prop
  | some ms => wpR (Fs ms) (kGo as ms.length Q e)
  | none => False
@[simp] theorem wp_callM {Fs : List M → FOut} {fr : EM (List AR)} : wp (callM Fs fr) e QM E = wp fr e (kCall Fs QM) E := by
  unfold callM; rw [wp_bnd]; congr; funext as e1
  unfold wp kCall
  by_cases h : (slotsOf as).Nodup
  · simp only [h, if_true, true_and]
    cases q : argM e1 as with
    | none => simp
    | some ms =>
      simp only [Option.some.injEq, exists_eq_left']
      unfold wpR
      cases z : Fs ms with
      | ok r ms' =>
        by_cases hl : ms'.length = ms.length <;> simp [hl]
      | ex => rfl
      | no => rfl
  · simp [h]
@[simp] theorem kCall_at {Fs : List M → FOut} {as : List AR} {e1 : Env} : kCall Fs QM as e1 = ((slotsOf as).Nodup ∧ kCall2 Fs as QM e1 (argM e1 as)) := by
  unfold kCall
  cases q : argM e1 as with
  | none => simp [kCall2]
  | some ms => simp only [Option.some.injEq, exists_eq_left']; rfl
@[simp] theorem kCall2_at {Fs : List M → FOut} {as : List AR} {e1 : Env} {ms : List M} : kCall2 Fs as QM e1 (some ms) = wpR (Fs ms) (kGo as ms.length QM e1) := rfl
@[simp] theorem kGo_at {as : List AR} {n : Nat} {r : M} {ms : List M} : kGo as n QM e r ms = (ms.length = n ∧ QM r (putB e as ms)) := rfl
def kToD (Q : D → Env → Prop) : M → Env → Prop := fun m e => wpo m.toD Q e
@[simp] theorem wp_callD {Fs : List M → FOut} {fr : EM (List AR)} : wp (callD Fs fr) e Q E = wp fr e (kCall Fs (kToD Q)) E := by
  unfold callD; rw [wp_bnd, ← wp_callM]; congr; funext x e1; rw [wp_lif]; rfl
@[simp] theorem kToD_im {d : D} {e1 : Env} : kToD Q (.im d) e1 = Q d e1 := rfl
@[simp] theorem kToD_at {m : M} {e1 : Env} : kToD Q m e1 = wpo m.toD Q e1 := rfl
@[simp] theorem wp_frzE {fm : EM M} : wp (frzE fm) e Q E = wp fm e (kToD Q) E := by
  unfold frzE; rw [wp_bnd]; congr; funext x e1; rw [wp_lif]; rfl
/-! ### owned things -/
def mkLs (ds : List D) : Option M := if few ds.length then some (.ls (ds.map .im)) else none
def kRowM (g : List D → Option M) (Q : M → Env → Prop) : List D → Env → Prop := fun ds e => wpo (g ds) Q e
@[simp] theorem kRowM_at {g : List D → Option M} {ds : List D} {e1 : Env} : kRowM g QM ds e1 = wpo (g ds) QM e1 := rfl
@[simp] theorem wp_lstM : wp (lstM fs) e QM E = wp fs e (kRowM mkLs QM) E := by
  unfold lstM; rw [wp_bnd]; congr; funext x e1; unfold kRowM mkLs
  by_cases h : few x.length = true <;> simp only [h, if_true, if_false] <;> rfl
@[simp] theorem wpo_mkLs {ds : List D} : wpo (mkLs ds) QM e = (ds.length ≤ 1000000 ∧ QM (.ls (ds.map .im)) e) := by
  unfold mkLs; rw [wpo_if]; simp [few]
@[simp] theorem wp_dtM : wp dtM e QM E = QM (.dt []) e := rfl
@[simp] theorem wp_dkM : wp dkM e QM E = QM (.dk []) e := rfl
def kImM (Q : M → Env → Prop) : D → Env → Prop := fun d e => Q (.im d) e
@[simp] theorem wp_imM : wp (imM f) e QM E = wp f e (kImM QM) E := by unfold imM; rw [wp_bnd]; rfl
@[simp] theorem kImM_at {d : D} {e1 : Env} : kImM QM d e1 = QM (.im d) e1 := rfl
def kCat1 (fb : EM D) (Q : M → Env → Prop) (E : EX) : D → Env → Prop := fun x e1 => wp fb e1 (fun y e2 => match x, y with
  | .list xs, .list ys => few (xs.length + ys.length) = true ∧ Q (.ls ((xs ++ ys).map .im)) e2
  | _, _ => False) E
@[simp] theorem wp_catM : wp (catM fa fb) e QM E = wp fa e (kCat1 fb QM E) E := by
  unfold catM; rw [wp_bnd]; congr; funext x e1; rw [wp_bnd]; unfold kCat1; congr; funext y e2
  cases x <;> try rfl
  cases y <;> try rfl
  rename_i xs ys
  by_cases h : few (xs.length + ys.length) = true
  · simp only [h, if_true, true_and]; rfl
  · show wp (if few (xs.length + ys.length) = true then ret (M.ls (List.map M.im (xs ++ ys))) else fun x => Out.no) e2 QM E = (few (xs.length + ys.length) = true ∧ QM (M.ls (List.map M.im (xs ++ ys))) e2)
    rw [if_neg h]; exact propext ⟨fun z => z.elim, fun z => h z.1⟩
def kCat2 (xs : List D) (Q : M → Env → Prop) : D → Env → Prop := fun y e2 => match y with
  | .list ys => few (xs.length + ys.length) = true ∧ Q (.ls ((xs ++ ys).map .im)) e2
  | _ => False
@[simp] theorem kCat1_at {xs : List D} {e1 : Env} : kCat1 fb QM E (.list xs) e1 = wp fb e1 (kCat2 xs QM) E := by
  unfold kCat1; congr; funext y e2; cases y <;> rfl
@[simp] theorem kCat2_at {xs ys : List D} {e1 : Env} : kCat2 xs QM (.list ys) e1 = (xs.length + ys.length ≤ 1000000 ∧ QM (.ls ((xs ++ ys).map .im)) e1) := by simp [kCat2, few]
@[simp] theorem wp_chk {α : Type} {i : Nat} {g : EM α} {Q : α → Env → Prop} : wp (chk i g) e Q E = (has i e = true ∧ wp g e Q E) := by
  unfold wp chk
  by_cases h : has i e = true <;> simp [h]
def kPk {α : Type} (i : Nat) (g : D → Option α) (Q : α → Env → Prop) (e : Env) : Option D → Prop
  | some d => wpo (g d) Q e
  | none => False
@[simp] theorem wp_pk {α : Type} {i : Nat} {g : D → Option α} {Q : α → Env → Prop} : wp (pk i g) e Q E = kPk i g Q e (peekD i e) := by
  unfold wp pk
  cases peekD i e with
  | none => rfl
  | some d => simp only [kPk]; cases g d <;> rfl
@[simp] theorem kPk_at {α : Type} {i : Nat} {g : D → Option α} {Q : α → Env → Prop} {d : D} : kPk i g Q e (some d) = wpo (g d) Q e := rfl
def kPkL (i : Nat) (g : D → D → Option D) (Q : D → Env → Prop) : D → Env → Prop := fun y e => kPk i (fun d => g d y) Q e (peekD i e)
@[simp] theorem wp_pkL {i : Nat} : wp (pkL i g fb) e Q E = (has i e = true ∧ wp fb e (kPkL i g Q) E) := by
  unfold pkL; rw [wp_chk, wp_bnd]; congr; funext x e1; rw [wp_pk]; rfl
@[simp] theorem kPkL_at {i : Nat} {y : D} {e1 : Env} : kPkL i g Q y e1 = kPk i (fun d => g d y) Q e1 (peekD i e1) := rfl
def kPkR (i : Nat) (g : D → D → Option D) (Q : D → Env → Prop) : D → Env → Prop := fun y e => has i e = true ∧ kPk i (fun d => g y d) Q e (peekD i e)
@[simp] theorem wp_pkR {i : Nat} : wp (pkR i g fa) e Q E = wp fa e (kPkR i g Q) E := by
  unfold pkR; rw [wp_bnd]; congr; funext x e1; rw [wp_chk, wp_pk]; rfl
@[simp] theorem kPkR_at {i : Nat} {y : D} {e1 : Env} : kPkR i g Q y e1 = (has i e1 = true ∧ kPk i (fun d => g y d) Q e1 (peekD i e1)) := rfl
@[simp] theorem wp_pkLen {i : Nat} : wp (pkLen i) e Q E = (has i e = true ∧ kPk i (fun d => lenD [d]) Q e (peekD i e)) := by
  unfold pkLen; rw [wp_chk, wp_pk]
def kIxA (i : Nat) (Q : D → Env → Prop) : D → Env → Prop := fun y e => wpo (itemA i y e) Q e
@[simp] theorem wp_pkIxA {i : Nat} : wp (pkIxA i fb) e Q E = (has i e = true ∧ wp fb e (kIxA i Q) E) := by
  unfold pkIxA; rw [wp_chk, wp_bnd]; congr; funext x e1; unfold wp; cases h : itemA i x e1 <;> simp [kIxA, lif, h, wpo]
@[simp] theorem kIxA_at {i : Nat} {y : D} {e1 : Env} : kIxA i Q y e1 = wpo (itemA i y e1) Q e1 := rfl
/-! ### statements -/
def kSeq (g : EM Flow) (Q : Flow → Env → Prop) (E : EX) : Flow → Env → Prop
  | .nxt, e => wp g e Q E
  | fl, e => Q fl e
@[simp] theorem wp_seqS {g1 g2 : EM Flow} : wp (seqS g1 g2) e QS E = wp g1 e (kSeq g2 QS E) E := by
  unfold wp seqS
  cases g1 e with
  | ok a e' => cases a <;> rfl
  | ex => rfl
  | no => rfl
@[simp] theorem kSeq_nxt {g2 : EM Flow} : kSeq g2 QS E .nxt e = wp g2 e QS E := rfl
@[simp] theorem kSeq_ret {g2 : EM Flow} {m : M} : kSeq g2 QS E (.ret m) e = QS (.ret m) e := rfl
@[simp] theorem kSeq_brk {g2 : EM Flow} : kSeq g2 QS E .brk e = QS .brk e := rfl
@[simp] theorem kSeq_cnt {g2 : EM Flow} : kSeq g2 QS E .cnt e = QS .cnt e := rfl
def kEx (Q : Flow → Env → Prop) : D → Env → Prop := fun _ e => Q .nxt e
@[simp] theorem wp_exprS : wp (exprS f) e QS E = wp f e (kEx QS) E := by unfold exprS; rw [wp_bnd]; rfl
@[simp] theorem kEx_at {d : D} {e1 : Env} : kEx QS d e1 = QS .nxt e1 := rfl
def kRt (Q : Flow → Env → Prop) : D → Env → Prop := fun d e => Q (.ret (.im d)) e
@[simp] theorem wp_retS : wp (retS f) e QS E = wp f e (kRt QS) E := by unfold retS; rw [wp_bnd]; rfl
@[simp] theorem kRt_at {d : D} {e1 : Env} : kRt QS d e1 = QS (.ret (.im d)) e1 := rfl
def kRtM (Q : Flow → Env → Prop) : M → Env → Prop := fun d e => Q (.ret d) e
@[simp] theorem wp_retM {fm : EM M} : wp (retM fm) e QS E = wp fm e (kRtM QS) E := by unfold retM; rw [wp_bnd]; rfl
@[simp] theorem kRtM_at {d : M} {e1 : Env} : kRtM QS d e1 = QS (.ret d) e1 := rfl
@[simp] theorem wp_ifS {g1 g2 : EM Flow} : wp (ifS t g1 g2) e QS E = wp t e (kIf g1 g2 QS E) E := by
  unfold ifS; rw [wp_bnd]; congr; funext x e1; exact wp_kif
def kSet (i : Nat) (Q : Flow → Env → Prop) : D → Env → Prop := fun d e => i < e.length ∧ Q .nxt (e.set i (some (.im d)))
def kSetM (i : Nat) (Q : Flow → Env → Prop) : M → Env → Prop := fun d e => i < e.length ∧ Q .nxt (e.set i (some d))
@[simp] theorem wp_stoM {i : Nat} {m : M} : wp (stoM i m) e QS E = (i < e.length ∧ QS .nxt (e.set i (some m))) := by
  unfold wp stoM
  by_cases h : i < e.length <;> simp [h]
@[simp] theorem wp_setS {i : Nat} : wp (setS i f) e QS E = wp f e (kSet i QS) E := by unfold setS; rw [wp_bnd]; congr; funext x e1; exact wp_stoM
@[simp] theorem wp_setM {i : Nat} {fm : EM M} : wp (setM i fm) e QS E = wp fm e (kSetM i QS) E := by unfold setM; rw [wp_bnd]; congr; funext x e1; exact wp_stoM
@[simp] theorem kSet_at {i : Nat} {d : D} {e1 : Env} : kSet i QS d e1 = (i < e1.length ∧ QS .nxt (e1.set i (some (.im d)))) := rfl
@[simp] theorem kSetM_at {i : Nat} {d : M} {e1 : Env} : kSetM i QS d e1 = (i < e1.length ∧ QS .nxt (e1.set i (some d))) := rfl
@[simp] theorem wp_gN {i : Nat} {d : D} : wp (gN i d) e QU E = (i < e.length ∧ QU () (e.set i (some (.im d)))) := by
  unfold wp gN
  by_cases h : i < e.length <;> simp [h]
def kGs (u : List D → EM Unit) (ds : List D) (Q : Unit → Env → Prop) (E : EX) : Unit → Env → Prop := fun _ e => wp (u ds) e Q E
@[simp] theorem wp_gsNil : wp (gsNil []) e QU E = QU () e := rfl
@[simp] theorem wp_gsCons {t : D → EM Unit} {u : List D → EM Unit} {d : D} {ds : List D} : wp (gsCons t u (d :: ds)) e QU E = wp (t d) e (kGs u ds QU E) E := by
  unfold gsCons wp
  simp only [bnd]
  cases t d e <;> rfl
@[simp] theorem kGs_at {u : List D → EM Unit} {ds : List D} {x : Unit} {e1 : Env} : kGs u ds QU E x e1 = wp (u ds) e1 QU E := rfl
@[simp] theorem wp_gT {n : Nat} {u : List D → EM Unit} {ds : List D} : wp (gT n u (.tuple ds)) e QU E = (ds.length = n ∧ wp (u ds) e QU E) := by
  unfold wp gT
  by_cases h : ds.length = n <;> simp [h]
def kAsg (t : D → EM Unit) (Q : Flow → Env → Prop) (E : EX) : D → Env → Prop := fun d e => wp (t d) e (fun _ e1 => Q .nxt e1) E
def kNx (Q : Flow → Env → Prop) : Unit → Env → Prop := fun _ e => Q .nxt e
@[simp] theorem wp_asgS {t : D → EM Unit} : wp (asgS f t) e QS E = wp f e (kAsg t QS E) E := by unfold asgS; rw [wp_bnd]; congr; funext x e1; unfold goS; rw [wp_bnd]; rfl
@[simp] theorem kAsg_at {t : D → EM Unit} {d : D} {e1 : Env} : kAsg t QS E d e1 = wp (t d) e1 (kNx QS) E := rfl
@[simp] theorem kNx_at {x : Unit} {e1 : Env} : kNx QS x e1 = QS .nxt e1 := rfl
def kPar (u : List D → EM Unit) (Q : Flow → Env → Prop) (E : EX) : List D → Env → Prop := fun ds e => wp (u ds) e (kNx Q) E
@[simp] theorem wp_parS {u : List D → EM Unit} : wp (parS fs u) e QS E = wp fs e (kPar u QS E) E := by unfold parS; rw [wp_bnd]; congr; funext x e1; unfold goS; rw [wp_bnd]; rfl
@[simp] theorem kPar_at {u : List D → EM Unit} {ds : List D} {e1 : Env} : kPar u QS E ds e1 = wp (u ds) e1 (kNx QS) E := rfl
def kAug1 (i : Nat) (g : D → D → Option D) (f : EM D) (Q : Flow → Env → Prop) (E : EX) : D → Env → Prop := fun x e1 => wp f e1 (fun y e2 => wpo (g x y) (kSet i Q) e2) E
def kAug2 (i : Nat) (g : D → D → Option D) (x : D) (Q : Flow → Env → Prop) : D → Env → Prop := fun y e2 => wpo (g x y) (kSet i Q) e2
@[simp] theorem wp_augS {i : Nat} : wp (augS i g f) e QS E = wp (var i) e (kAug1 i g f QS E) E := by
  unfold augS; rw [wp_bnd]; congr; funext x e1; rw [wp_bnd]; unfold kAug1; congr; funext y e2; rw [wp_bnd, wp_lif]; congr; funext z e3; exact wp_stoM
@[simp] theorem kAug1_at {i : Nat} {x : D} {e1 : Env} : kAug1 i g f QS E x e1 = wp f e1 (kAug2 i g x QS) E := rfl
@[simp] theorem kAug2_at {i : Nat} {x y : D} {e1 : Env} : kAug2 i g x QS y e1 = wpo (g x y) (kSet i QS) e1 := rfl
def kApp (i : Nat) (Q : Flow → Env → Prop) : D → Env → Prop := fun d e => wp (appM i d) e Q (fun _ _ _ => False)
def kApp2 (i : Nat) (d : D) (Q : Flow → Env → Prop) (e : Env) : Option (Option M) → Prop
  | some (some (.ls ms)) => ms.length + 1 ≤ 1000000 ∧ Q .nxt (e.set i (some (.ls (ms ++ [.im d]))))
  | _ => False
@[simp] theorem wp_appS {i : Nat} : wp (appS i f) e QS E = (isLs i e = true ∧ wp f e (kApp i QS) E) := by
  unfold wp appS
  by_cases h : isLs i e = true
  · simp only [h, if_true, true_and, bnd]
    cases f e with
    | ok d e1 =>
      simp only [kApp, wp]
      cases q : appM i d e1 with
      | ok => rfl
      | ex =>
        exfalso
        unfold appM at q
        split at q
        · split at q <;> cases q
        · cases q
      | no => rfl
    | ex => rfl
    | no => rfl
  · simp [h]
@[simp] theorem kApp_at {i : Nat} {d : D} {e1 : Env} : kApp i QS d e1 = kApp2 i d QS e1 e1[i]? := by
  unfold kApp wp appM
  cases e1[i]? with
  | none => rfl
  | some o => cases o with
    | none => rfl
    | some m => cases m <;> try rfl
                rename_i ms
                simp only [kApp2]
                by_cases h : ms.length + 1 ≤ 1000000
                · simp [few, h]
                · simp [few, h]
@[simp] theorem kApp2_at {i : Nat} {d : D} {ms : List M} : kApp2 i d QS e (some (some (.ls ms))) = (ms.length + 1 ≤ 1000000 ∧ QS .nxt (e.set i (some (.ls (ms ++ [.im d]))))) := rfl
def kSto1 (i : Nat) (fk : EM D) (Q : Flow → Env → Prop) (E : EX) : D → Env → Prop := fun d e => has i e = true ∧ wp fk e (fun k e1 => wp (storeM i k d) e1 Q E) E
def kSto2 (i : Nat) (d : D) (Q : Flow → Env → Prop) (E : EX) : D → Env → Prop := fun k e => wp (storeM i k d) e Q E
@[simp] theorem wp_storeS {i : Nat} {fk fv : EM D} : wp (storeS i fk fv) e QS E = wp fv e (kSto1 i fk QS E) E := by
  unfold storeS; rw [wp_bnd]; congr; funext x e1; rw [wp_chk, wp_bnd]; rfl
@[simp] theorem kSto1_at {i : Nat} {fk : EM D} {d : D} {e1 : Env} : kSto1 i fk QS E d e1 = (has i e1 = true ∧ wp fk e1 (kSto2 i d QS E) E) := rfl
@[simp] theorem kSto2_at {i : Nat} {d k : D} {e1 : Env} : kSto2 i d QS E k e1 = wp (storeM i k d) e1 QS E := rfl
/-! ### loops -/
def kFor (t : D → EM Unit) (g : EM Flow) (Q : Flow → Env → Prop) (E : EX) : List D → Env → Prop := fun ds e => wp (loopS t g ds) e Q E
@[simp] theorem wp_forS {fi : EM (List D)} {t : D → EM Unit} {g : EM Flow} : wp (forS fi t g) e QS E = wp fi e (kFor t g QS E) E := by unfold forS; rw [wp_bnd]; rfl
/-- behind a turn -/
def kTurn (N : Env → Prop) (Q : Flow → Env → Prop) : Flow → Env → Prop
  | .nxt, e => N e
  | .cnt, e => N e
  | .brk, e => Q .nxt e
  | .ret m, e => Q (.ret m) e
@[simp] theorem kTurn_nxt {N : Env → Prop} : kTurn N QS .nxt e = N e := rfl
@[simp] theorem kTurn_cnt {N : Env → Prop} : kTurn N QS .cnt e = N e := rfl
@[simp] theorem kTurn_brk {N : Env → Prop} : kTurn N QS .brk e = QS .nxt e := rfl
@[simp] theorem kTurn_ret {N : Env → Prop} {m : M} : kTurn N QS (.ret m) e = QS (.ret m) e := rfl
def kBody (g : EM Flow) (N : Env → Prop) (Q : Flow → Env → Prop) (E : EX) : Unit → Env → Prop := fun _ e => wp g e (kTurn N Q) E
@[simp] theorem kBody_at {g : EM Flow} {N : Env → Prop} {x : Unit} {e1 : Env} : kBody g N QS E x e1 = wp g e1 (kTurn N QS) E := rfl
theorem for_cons {t : D → EM Unit} {g : EM Flow} {d : D} {ds : List D} (h : wp (t d) e (kBody g (fun e1 => kFor t g QS E ds e1) QS E) (fun _ _ _ => False)) : kFor t g QS E (d :: ds) e := by
  unfold kFor wp
  rw [loopS]
  unfold wp at h
  cases q : t d e with
  | no => rw [q] at h; exact h.elim
  | ex => rw [q] at h; exact h.elim
  | ok u e1 =>
    rw [q] at h
    simp only [kBody, wp] at h
    simp only [q]
    cases z : g e1 with
    | no => rw [z] at h; exact h.elim
    | ex => rw [z] at h; exact h
    | ok fl e2 =>
      rw [z] at h
      cases fl <;> exact h
/-- a for by what holds behind the turns that are done -/
theorem for_inv {α : Type} {em : α → D} {as : List α} {t : D → EM Unit} {g : EM Flow} (I : List α → Env → Prop) (h0 : I [] e) (step : ∀ done a rest e, as = done ++ a :: rest → I done e → wp (t (em a)) e (kBody g (I (done ++ [a])) QS E) (fun _ _ _ => False)) (hq : ∀ e', I as e' → QS .nxt e') : kFor t g QS E (as.map em) e := by
  have key : ∀ (rest done : List α) (e : Env), as = done ++ rest → I done e → kFor t g QS E (rest.map em) e := by
    intro rest
    induction rest with
    | nil =>
      intro done e h i
      rw [List.append_nil] at h
      subst h
      exact hq e i
    | cons a rest ih =>
      intro done e h i
      rw [List.map_cons]
      refine for_cons (wp_mono (step done a rest e h i) fun u e1 hb => ?_)
      unfold kBody at hb ⊢
      refine wp_mono hb fun fl e2 hf => ?_
      cases fl
      · exact ih (done ++ [a]) e2 (by rw [h]; simp) hf
      · exact hf
      · exact ih (done ++ [a]) e2 (by rw [h]; simp) hf
      · exact hf
  exact key as [] e rfl h0
/-! ### comprehensions -/
def kComp (vs : List Nat) (t : D → EM Unit) (tt : EM Bool) (te : EM D) (Q : D → Env → Prop) (E : EX) : List D → Env → Prop := fun ds e => wp (compE vs (ret ds) t tt te) e Q E
@[simp] theorem wp_compE {vs : List Nat} {fi : EM (List D)} {t : D → EM Unit} {tt : EM Bool} {te : EM D} : wp (compE vs fi t tt te) e Q E = wp fi e (kComp vs t tt te Q E) E := by
  unfold kComp compE; rw [wp_bnd]; congr
def noX : EX := fun _ _ _ => False
def kElt (vs : List Nat) (w : Env) (te : EM D) (b : Bool) (y : D) : Bool → Env → Prop := fun x e2 => x = b ∧ if b then wp te e2 (fun z e3 => z = y ∧ vs.all (imAt e3) = true ∧ wipeE e3 vs = w) noX else (vs.all (imAt e2) = true ∧ wipeE e2 vs = w)
def kTgt (vs : List Nat) (w : Env) (tt : EM Bool) (te : EM D) (b : Bool) (y : D) : Unit → Env → Prop := fun _ e1 => wp tt e1 (kElt vs w te b y) noX
@[simp] theorem kTgt_at {vs : List Nat} {w : Env} {tt : EM Bool} {te : EM D} {b : Bool} {y : D} {x : Unit} {e1 : Env} : kTgt vs w tt te b y x e1 = wp tt e1 (kElt vs w te b y) noX := rfl
def kEnd (vs : List Nat) (w : Env) (y : D) : D → Env → Prop := fun z e3 => z = y ∧ vs.all (imAt e3) = true ∧ wipeE e3 vs = w
@[simp] theorem kEnd_at {vs : List Nat} {w : Env} {y z : D} {e3 : Env} : kEnd vs w y z e3 = (z = y ∧ vs.all (imAt e3) = true ∧ wipeE e3 vs = w) := rfl
@[simp] theorem kElt_at {vs : List Nat} {w : Env} {te : EM D} {b x : Bool} {y : D} {e1 : Env} : kElt vs w te b y x e1 = (x = b ∧ ((b = true → wp te e1 (kEnd vs w y) noX) ∧ (b = false → vs.all (imAt e1) = true ∧ wipeE e1 vs = w))) := by
  unfold kElt
  cases b
  · simp
  · simp only [if_true, true_implies, Bool.true_eq_false, false_implies, and_true]
    rfl
theorem compL_wp {α : Type} {em : α → D} {vs : List Nat} {t : D → EM Unit} {tt : EM Bool} {te : EM D} {w : Env} {b : α → Bool} {f : α → D} : ∀ {as : List α}, (∀ a ∈ as, wp (t (em a)) w (kTgt vs w tt te (b a) (f a)) noX) → compL vs t tt te (as.map em) w = .ok ((as.filter b).map f) w
  | [], _ => rfl
  | a :: as, h => by
    have ih := compL_wp (as := as) fun x hx => h x (List.mem_cons_of_mem _ hx)
    have ha := h a List.mem_cons_self
    rw [List.map_cons, compL]
    unfold wp at ha
    cases q : t (em a) w with
    | no => rw [q] at ha; exact ha.elim
    | ex => rw [q] at ha; exact ha.elim
    | ok u e1 =>
      rw [q] at ha
      simp only [kTgt, wp] at ha ⊢
      cases q2 : tt e1 with
      | no => rw [q2] at ha; exact ha.elim
      | ex => rw [q2] at ha; exact ha.elim
      | ok x e2 =>
        rw [q2] at ha
        simp only [kElt] at ha
        obtain ⟨rfl, ha⟩ := ha
        cases hb : b a with
        | false =>
          rw [hb] at ha
          have ha : vs.all (imAt e2) = true ∧ wipeE e2 vs = w := ha
          simp only [q, q2, hb, ha.1, if_true, ha.2, ih]
          rw [List.filter_cons_of_neg (by rw [hb]; decide)]
        | true =>
          rw [hb] at ha
          have ha : wp te e2 (fun z e3 => z = f a ∧ vs.all (imAt e3) = true ∧ wipeE e3 vs = w) noX := ha
          unfold wp at ha
          cases q3 : te e2 with
          | no => rw [q3] at ha; exact ha.elim
          | ex => rw [q3] at ha; exact ha.elim
          | ok y e3 =>
            rw [q3] at ha
            obtain ⟨h1, h2, h3⟩ := ha
            simp only [q, q2, q3, hb, h2, if_true, h3, ih]
            rw [List.filter_cons_of_pos hb, List.map_cons, h1]
/-- a comprehension: what each thing gives -/
theorem comp_all {α : Type} {em : α → D} {as : List α} {vs : List Nat} {t : D → EM Unit} {tt : EM Bool} {te : EM D} (b : α → Bool) (f : α → D) (hw : vs.all (imAt e) = true) (hb : backE (wipeE e vs) e vs = e) (hw2 : vs.all (imAt (wipeE e vs)) = true) (hl : as.length ≤ 1000000)
    (h : ∀ a ∈ as, wp (t (em a)) (wipeE e vs) (kTgt vs (wipeE e vs) tt te (b a) (f a)) noX) (hq : Q (.list ((as.filter b).map f)) e) : kComp vs t tt te Q E (as.map em) e := by
  unfold kComp wp compE
  simp only [bnd, ret, hw, if_true, compL_wp h, hw2, Bool.and_true]
  rw [if_pos (few_le' (by rw [List.length_map]; exact Nat.le_trans (List.length_filter_le _ _) hl)), hb]
  exact hq
/-- without an if -/
theorem comp_map {α : Type} {em : α → D} {as : List α} {vs : List Nat} {t : D → EM Unit} {te : EM D} (f : α → D) (hw : vs.all (imAt e) = true) (hb : backE (wipeE e vs) e vs = e) (hw2 : vs.all (imAt (wipeE e vs)) = true) (hl : as.length ≤ 1000000)
    (h : ∀ a ∈ as, wp (t (em a)) (wipeE e vs) (kTgt vs (wipeE e vs) (ret true) te true (f a)) noX) (hq : Q (.list (as.map f)) e) : kComp vs t (ret true) te Q E (as.map em) e := by
  refine comp_all (fun _ => true) f hw hb hw2 hl h ?_
  rw [List.filter_eq_self.mpr (fun _ _ => rfl)]
  exact hq
/-! ### more of owned things -/
def kPdm1 (i j : Nat) (fm : EM M) (Q : Flow → Env → Prop) (E : EX) : D → Env → Prop := fun d e1 => wp fm e1 (fun m e2 => wp (seqS (stoM j m) (stoM i (.im d))) e2 Q E) E
def kPdm2 (i j : Nat) (d : D) (Q : Flow → Env → Prop) : M → Env → Prop := fun m e2 => j < e2.length ∧ i < e2.length ∧ Q .nxt ((e2.set j (some m)).set i (some (.im d)))
@[simp] theorem wp_parDM {i j : Nat} {fm : EM M} : wp (parDM i j fa fm) e QS E = wp fa e (kPdm1 i j fm QS E) E := by
  unfold parDM; rw [wp_bnd]; congr; funext d e1; rw [wp_bnd]; rfl
@[simp] theorem kPdm1_at {i j : Nat} {fm : EM M} {d : D} {e1 : Env} : kPdm1 i j fm QS E d e1 = wp fm e1 (kPdm2 i j d QS) E := by
  unfold kPdm1; congr; funext m e2; rw [wp_seqS, wp_stoM, kSeq_nxt, wp_stoM, List.length_set]; rfl
@[simp] theorem kPdm2_at {i j : Nat} {d : D} {m : M} {e2 : Env} : kPdm2 i j d QS m e2 = (j < e2.length ∧ i < e2.length ∧ QS .nxt ((e2.set j (some m)).set i (some (.im d)))) := rfl
def kExt (i : Nat) (Q : Flow → Env → Prop) : M → Env → Prop := fun m e1 => wp (extM i m) e1 Q (fun _ _ _ => False)
def kExt2 (i : Nat) (ds : List D) (Q : Flow → Env → Prop) (e : Env) : Option (Option M) → Prop
  | some (some (.ls ms)) => ms.length + ds.length ≤ 1000000 ∧ Q .nxt (e.set i (some (.ls (ms ++ ds.map .im))))
  | _ => False
theorem extM_ex {i : Nat} {m : M} {e1 e' : Env} {C : Str} {fs : List (Str × D)} : extM i m e1 ≠ .ex C fs e' := by
  unfold extM
  split
  · split
    · split
      · split <;> intro h <;> cases h
      · intro h; cases h
    · intro h; cases h
  · intro h; cases h
@[simp] theorem wp_extS {i : Nat} {fm : EM M} : wp (extS i fm) e QS E = (isLs i e = true ∧ wp fm e (kExt i QS) E) := by
  unfold wp extS
  by_cases h : isLs i e = true
  · simp only [h, if_true, true_and, bnd]
    cases fm e with
    | ok d e1 =>
      simp only [kExt, wp]
      cases q : extM i d e1 with
      | ok => rfl
      | ex => exact absurd q extM_ex
      | no => rfl
    | ex => rfl
    | no => rfl
  · simp [h]
@[simp] theorem kExt_at {i : Nat} {ds : List D} {e1 : Env} : kExt i QS (.ls (ds.map .im)) e1 = kExt2 i ds QS e1 e1[i]? := by
  unfold kExt wp extM
  simp only [imAll_im]
  cases e1[i]? with
  | none => rfl
  | some o => cases o with
    | none => rfl
    | some m => cases m <;> try rfl
                rename_i ms
                simp only [kExt2]
                by_cases h : ms.length + ds.length ≤ 1000000
                · simp [few, h]
                · simp [few, h]
@[simp] theorem kExt2_at {i : Nat} {ds : List D} {ms : List M} : kExt2 i ds QS e (some (some (.ls ms))) = (ms.length + ds.length ≤ 1000000 ∧ QS .nxt (e.set i (some (.ls (ms ++ ds.map .im))))) := rfl
def kCompM (vs : List Nat) (t : D → EM Unit) (tt : EM Bool) (te : EM D) (Q : M → Env → Prop) (E : EX) : List D → Env → Prop := fun ds e => wp (compM vs (ret ds) t tt te) e Q E
@[simp] theorem wp_compM {vs : List Nat} {fi : EM (List D)} {t : D → EM Unit} {tt : EM Bool} {te : EM D} : wp (compM vs fi t tt te) e QM E = wp fi e (kCompM vs t tt te QM E) E := by
  unfold kCompM compM; rw [wp_bnd]; congr
/-! ### arguments, what comes back -/
@[simp] theorem slotsOf_nil : slotsOf [] = [] := rfl
@[simp] theorem slotsOf_d {d : D} {r : List AR} : slotsOf (.d d :: r) = slotsOf r := rfl
@[simp] theorem slotsOf_b {s : Nat} {r : List AR} : slotsOf (.b s :: r) = s :: slotsOf r := rfl
def kArg (o : Option (List M)) : Option (Option M) → Option (List M)
  | some (some m) => o.map (m :: ·)
  | _ => none
@[simp] theorem kArg_at {o : Option (List M)} {m : M} : kArg o (some (some m)) = o.map (m :: ·) := rfl
@[simp] theorem argM_nil : argM e [] = some [] := rfl
@[simp] theorem argM_d {d : D} {r : List AR} : argM e (.d d :: r) = (argM e r).map (.im d :: ·) := rfl
@[simp] theorem argM_b {s : Nat} {r : List AR} : argM e (.b s :: r) = kArg (argM e r) e[s]? := by
  rw [argM]
  cases e[s]? with
  | none => rfl
  | some o => cases o <;> rfl
@[simp] theorem putB_nil {ms : List M} : putB e [] ms = e := rfl
@[simp] theorem putB_d {d : D} {r : List AR} {m : M} {ms : List M} : putB e (.d d :: r) (m :: ms) = putB e r ms := rfl
@[simp] theorem putB_b {s : Nat} {r : List AR} {m : M} {ms : List M} : putB e (.b s :: r) (m :: ms) = (putB e r ms).set s (some m) := rfl
@[simp] theorem isIm_im {d : D} : isIm (.im d) = true := rfl
def kBb (o : Option (List M)) : Option (Option M) → Option (List M)
  | some (some m) => o.map (m :: ·)
  | _ => none
@[simp] theorem kBb_at {o : Option (List M)} {m : M} : kBb o (some (some m)) = o.map (m :: ·) := rfl
@[simp] theorem backs_nil {B : List Nat} {i : Nat} : backs B e i [] = some [] := rfl
@[simp] theorem backs_no {i : Nat} {d : D} {ms : List M} : backs [] e i (.im d :: ms) = (backs [] e (i + 1) ms).map (.im d :: ·) := rfl
theorem backs_cons {B : List Nat} {i : Nat} {m : M} {ms : List M} : backs B e i (m :: ms) = if B.contains i then kBb (backs B e (i + 1) ms) e[i]? else if isIm m then (backs B e (i + 1) ms).map (m :: ·) else (backs B e (i + 1) ms).map (.gone :: ·) := by
  rw [backs]
  by_cases h : B.contains i = true
  · simp only [h, if_true]
    cases e[i]? with
    | none => rfl
    | some o => cases o <;> rfl
  · rw [if_neg h, if_neg h]
/-! ### defs -/
def kBk (r : M) (K : M → List M → Prop) : Option (List M) → Prop
  | some ms => K r ms
  | none => False
@[simp] theorem kBk_at {r : M} {K : M → List M → Prop} {ms : List M} : kBk r K (some ms) = K r ms := rfl
def kFin (B : List Nat) (ms : List M) (K : M → List M → Prop) : Flow → Env → Prop
  | .ret r, e => kBk r K (backs B e 0 ms)
  | .nxt, e => kBk (.im .none) K (backs B e 0 ms)
  | _, _ => False
@[simp] theorem kFin_ret {B : List Nat} {ms : List M} {K : M → List M → Prop} {r : M} : kFin B ms K (.ret r) e = kBk r K (backs B e 0 ms) := rfl
@[simp] theorem kFin_nxt {B : List Nat} {ms : List M} {K : M → List M → Prop} : kFin B ms K .nxt e = kBk (.im .none) K (backs B e 0 ms) := rfl
theorem wpR_def {np nN : Nat} {B : List Nat} {g : EM Flow} {ms : List M} {K : M → List M → Prop} (hl : ms.length = np) (h : wp g (args0 nN ms) (kFin B ms K) noX) : wpR (defF np nN B g ms) K := by
  unfold defF
  rw [if_pos hl]
  unfold wp at h
  cases q : g (args0 nN ms) with
  | no => rw [q] at h; exact h.elim
  | ex => rw [q] at h; exact h.elim
  | ok fl e' =>
    rw [q] at h
    cases fl with
    | nxt =>
      simp only [kFin, endF] at h ⊢
      cases z : backs B e' 0 ms with
      | none => rw [z] at h; exact h.elim
      | some ms' => rw [z] at h; unfold wpR; exact h
    | brk => exact h.elim
    | cnt => exact h.elim
    | ret r =>
      simp only [kFin, endF] at h ⊢
      cases z : backs B e' 0 ms with
      | none => rw [z] at h; exact h.elim
      | some ms' => rw [z] at h; unfold wpR; exact h
end
end FD
/-! FD: the forward machine for objects. -/
namespace FD
open PySem L2
section
variable {α : Type} {QX : α → Env → Prop} {Q : D → Env → Prop} {QB : Bool → Env → Prop} {QL : List D → Env → Prop} {QM : M → Env → Prop} {QMs : List M → Env → Prop} {QS : Flow → Env → Prop} {E : EX} {e : Env} {i : Nat} {π : Way}
variable {f fa fb : EM D} {fs : EM (List D)} {fm : EM M} {g : Env → Option D} {gs : Env → Option (List D)}
/-! ### places -/
def kPg (π : Way) : Option (Option M) → Option M
  | some (some m) => getP π m
  | _ => none
@[simp] theorem pgM_at : pgM i π e = kPg π e[i]? := by
  unfold pgM kPg
  cases e[i]? with
  | none => rfl
  | some o => cases o <;> rfl
@[simp] theorem kPg_at {m : M} : kPg π (some (some m)) = getP π m := rfl
@[simp] theorem getP_nil {m : M} : getP [] m = some m := rfl
@[simp] theorem setP_nil {m n : M} : setP [] m n = n := rfl
def kPs (i : Nat) (π : Way) (n : M) (e : Env) : Option (Option M) → Env
  | some (some m) => e.set i (some (setP π m n))
  | _ => e
@[simp] theorem psM_at {n : M} : psM i π n e = kPs i π n e e[i]? := by
  unfold psM kPs
  cases e[i]? with
  | none => rfl
  | some o => cases o <;> rfl
@[simp] theorem kPs_at {m n : M} : kPs i π n e (some (some m)) = e.set i (some (setP π m n)) := rfl
/-! ### quiet -/
def kIm : Option M → Option D
  | some (.im d) => some d
  | _ => none
@[simp] theorem qP_at : qP i π e = kIm (pgM i π e) := by
  unfold qP kIm
  cases pgM i π e with
  | none => rfl
  | some m => cases m <;> rfl
@[simp] theorem kIm_at {d : D} : kIm (some (.im d)) = some d := rfl
@[simp] theorem qC_at {ga : Env → Option D} : qC ga gs e = (ga e).bind fun x => (gs e).map (x :: ·) := rfl
@[simp] theorem qB_at {k : D → D → Option D} {ga gb : Env → Option D} : qB k ga gb e = (ga e).bind fun x => (gb e).bind fun y => k x y := rfl
@[simp] theorem qR_at {k : List D → Option D} : qR k gs e = (gs e).bind k := rfl
@[simp] theorem tupQ_at {ds : List D} : tupQ ds = if ds.length ≤ 1000000 then some (.tuple ds) else none := by simp [tupQ]
@[simp] theorem wp_qE {ga : Env → Option α} : wp (qE ga) e QX E = wpo (ga e) QX e := by
  unfold wp qE
  cases ga e <;> rfl
/-! ### reads -/
def kVarP (i : Nat) (π : Way) (Q : D → Env → Prop) (e : Env) : Option M → Prop
  | some (.im d) => Q d e
  | some m => wpo m.toD (fun d e => Q d (psM i π (.im d) e)) e
  | none => False
@[simp] theorem wp_varP : wp (varP i π) e Q E = kVarP i π Q e (pgM i π e) := by
  unfold wp varP
  cases h : pgM i π e with
  | none => rfl
  | some m =>
    cases m with
    | im d => rfl
    | ls ms => simp only [kVarP]; cases M.toD (.ls ms) <;> rfl
    | dk ms => simp only [kVarP]; cases M.toD (.dk ms) <;> rfl
    | dt ms => simp only [kVarP]; cases M.toD (.dt ms) <;> rfl
    | ob C ms => simp only [kVarP]; cases M.toD (.ob C ms) <;> rfl
    | gone => rfl
    | tp _ => rfl
    | fz _ _ => rfl
    | xc _ _ => rfl
    | lm _ => rfl
    | kt _ => rfl
@[simp] theorem kVarP_im {d : D} : kVarP i π Q e (some (.im d)) = Q d e := rfl
def kVarPd (i : Nat) (π : Way) (Q : D → Env → Prop) (e : Env) : Option M → Prop
  | some (.im d) => Q d e
  | some m => wpo m.deep (fun d e => Q d (psM i π (.im d) e)) e
  | none => False
@[simp] theorem wp_varPd : wp (varPd i π) e Q E = kVarPd i π Q e (pgM i π e) := by
  unfold wp varPd
  cases h : pgM i π e with
  | none => rfl
  | some m =>
    cases m with
    | im d => rfl
    | ls ms => simp only [kVarPd]; cases M.deep (.ls ms) <;> rfl
    | dk ms => simp only [kVarPd]; cases M.deep (.dk ms) <;> rfl
    | dt ms => simp only [kVarPd]; cases M.deep (.dt ms) <;> rfl
    | ob C ms => simp only [kVarPd]; cases M.deep (.ob C ms) <;> rfl
    | gone => rfl
    | tp _ => rfl
    | fz _ _ => rfl
    | xc _ _ => rfl
    | lm _ => rfl
    | kt _ => rfl
@[simp] theorem kVarPd_im {d : D} : kVarPd i π Q e (some (.im d)) = Q d e := rfl
@[simp] theorem kVarPd_dk {ms : List (Key × M)} : kVarPd i π Q e (some (.dk ms)) = wpo (M.dk ms).deep (fun d e => Q d (psM i π (.im d) e)) e := rfl
def kOpP {β : Type} (k : M → D → Option β) (Q : β → Env → Prop) (e : Env) : Option M → Option D → Prop
  | some m, some y => wpo (k m y) Q e
  | _, _ => False
@[simp] theorem wp_opP {k : M → D → Option α} : wp (opP i π g k) e QX E = kOpP k QX e (pgM i π e) (g e) := by
  unfold wp opP
  cases pgM i π e with
  | none => rfl
  | some m =>
    dsimp only
    cases g e with
    | none => rfl
    | some y =>
      simp only [kOpP]
      cases k m y <;> rfl
@[simp] theorem kOpP_at {k : M → D → Option α} {m : M} {y : D} : kOpP k QX e (some m) (some y) = wpo (k m y) QX e := rfl
def kOpR {β : Type} (i : Nat) (π : Way) (k : D → D → Option β) (Q : β → Env → Prop) : D → Env → Prop := fun y e => wpo ((pgM i π e).bind M.toD) (fun d e => wpo (k y d) Q e) e
@[simp] theorem wp_opR {k : D → D → Option α} : wp (opR i π fa k) e QX E = wp fa e (kOpR i π k QX) E := by
  unfold opR
  rw [wp_bnd]
  congr
  funext y e1
  unfold wp kOpR
  dsimp only
  cases (pgM i π e1).bind M.toD with
  | none => rfl
  | some d =>
    simp only [wpo]
    cases k y d <;> rfl
@[simp] theorem kOpR_at {k : D → D → Option α} {y : D} {e1 : Env} : kOpR i π k QX y e1 = wpo ((pgM i π e1).bind M.toD) (fun d e => wpo (k y d) QX e) e1 := rfl
/-! ### changes -/
def kChP (i : Nat) (π : Way) (k : M → D → Option M) (Q : Flow → Env → Prop) (e : Env) : Option M → Option D → Prop
  | some m, some y => wpo (k m y) (fun n e => Q .nxt (psM i π n e)) e
  | _, _ => False
@[simp] theorem wp_chP {k : M → D → Option M} : wp (chP i π g k) e QS E = kChP i π k QS e (pgM i π e) (g e) := by
  unfold wp chP
  cases pgM i π e with
  | none => rfl
  | some m =>
    dsimp only
    cases g e with
    | none => rfl
    | some y =>
      simp only [kChP]
      cases k m y <;> rfl
@[simp] theorem kChP_at {k : M → D → Option M} {m : M} {y : D} : kChP i π k QS e (some m) (some y) = wpo (k m y) (fun n e => QS .nxt (psM i π n e)) e := rfl
def kStoP (i : Nat) (π : Way) (g : Env → Option D) (Q : Flow → Env → Prop) (E : EX) : D → Env → Prop := fun d e => wp (chP i π g (stoK d)) e Q E
@[simp] theorem wp_stoP : wp (stoP i π g fa) e QS E = wp fa e (kStoP i π g QS E) E := by unfold stoP; rw [wp_bnd]; rfl
@[simp] theorem kStoP_at {d : D} {e1 : Env} : kStoP i π g QS E d e1 = wp (chP i π g (stoK d)) e1 QS E := rfl
def kFldS (i : Nat) (π : Way) (C f : Str) (Q : Flow → Env → Prop) : M → Env → Prop := fun n e => wpo ((pgM i π e).bind (fldK C f n)) (fun m e => Q .nxt (psM i π m e)) e
@[simp] theorem wp_fldS {C f : Str} : wp (fldS i π C f fm) e QS E = wp fm e (kFldS i π C f QS) E := by
  unfold fldS
  rw [wp_bnd]
  congr
  funext n e1
  unfold wp kFldS
  dsimp only
  cases (pgM i π e1).bind (fldK C f n) <;> rfl
@[simp] theorem kFldS_at {C f : Str} {n : M} {e1 : Env} : kFldS i π C f QS n e1 = wpo ((pgM i π e1).bind (fldK C f n)) (fun m e => QS .nxt (psM i π m e)) e1 := rfl
def kMv (i : Nat) (Q : M → Env → Prop) (e : Env) : Option (Option M) → Prop
  | some (some m) => Q m (e.set i (some .gone))
  | _ => False
@[simp] theorem wp_mvM : wp (mvM i) e QM E = kMv i QM e e[i]? := by
  unfold wp mvM
  cases e[i]? with
  | none => rfl
  | some o => cases o <;> rfl
@[simp] theorem kMv_at {m : M} : kMv i QM e (some (some m)) = QM m (e.set i (some .gone)) := rfl
/-! ### methods, objects made -/
def kMeth (i : Nat) (π : Way) (n : Nat) (Q : M → Env → Prop) (e : Env) : M → List M → Prop
  | r, m' :: ms => ms.length = n ∧ Q r (psM i π m' e)
  | _, [] => False
@[simp] theorem kMeth_at {n : Nat} {r m' : M} {ms : List M} : kMeth i π n QM e r (m' :: ms) = (ms.length = n ∧ QM r (psM i π m' e)) := rfl
def kMethP (C m : Str) (Fs : List M → FOut) (i : Nat) (π : Way) (Q : M → Env → Prop) (e : Env) : Option M → Option (List D) → Prop
  | some n, some ds => isOb C m n = true ∧ wpR (Fs (n :: ds.map .im)) (kMeth i π ds.length Q e)
  | _, _ => False
@[simp] theorem wp_methP {C m : Str} {Fs : List M → FOut} : wp (methP i π C m Fs gs) e QM E = kMethP C m Fs i π QM e (pgM i π e) (gs e) := by
  unfold wp methP
  cases pgM i π e with
  | none => rfl
  | some n =>
    dsimp only
    cases ho : isOb C m n with
    | false =>
      cases gs e <;> simp [kMethP, ho]
    | true =>
      rw [if_pos rfl]
      cases gs e with
      | none => rfl
      | some ds =>
        simp only [kMethP, ho, true_and]
        unfold lendF wpR
        cases Fs (n :: ds.map .im) with
        | no => rfl
        | ex => rfl
        | ok r ms =>
          dsimp only
          cases ms with
          | nil => rfl
          | cons m' ms =>
            dsimp only [kMeth]
            by_cases hl : ms.length = ds.length
            · rw [if_pos hl]; simp [hl]
            · rw [if_neg hl]; simp [hl]
@[simp] theorem kMethP_at {C m : Str} {Fs : List M → FOut} {n : M} {ds : List D} : kMethP C m Fs i π QM e (some n) (some ds) = (isOb C m n = true ∧ wpR (Fs (n :: ds.map .im)) (kMeth i π ds.length QM e)) := rfl
def kGive (Q : M → Env → Prop) (e : Env) : M → List M → Prop := fun r _ => Q r e
@[simp] theorem kGive_at {r : M} {ms : List M} : kGive QM e r ms = QM r e := rfl
@[simp] theorem wp_giveF {Fs : List M → FOut} {ms : List M} : wp (giveF Fs ms) e QM E = wpR (Fs ms) (kGive QM e) := by
  unfold wp giveF wpR
  cases Fs ms <;> rfl
def kMk (Q : M → Env → Prop) (e : Env) : M → List M → Prop
  | .im .none, m :: _ => Q m e
  | _, _ => False
@[simp] theorem kMk_at {m : M} {ms : List M} : kMk QM e (.im .none) (m :: ms) = QM m e := rfl
@[simp] theorem wp_mkF {Fs : List M → FOut} {C : Str} {ms : List M} : wp (mkF Fs C ms) e QM E = wpR (Fs (.ob C [] :: ms)) (kMk QM e) := by
  unfold wp mkF wpR
  cases Fs (.ob C [] :: ms) with
  | no => rfl
  | ex => rfl
  | ok r ms' =>
    dsimp only
    cases r with
    | im d => cases d <;> cases ms' <;> rfl
    | _ => rfl
def kVd (fv : EM (List M)) (Q : List M → Env → Prop) (E : EX) : D → Env → Prop := fun d e => wp fv e (fun ms e1 => Q (.im d :: ms) e1) E
def kVc (m : M) (Q : List M → Env → Prop) : List M → Env → Prop := fun ms e => Q (m :: ms) e
@[simp] theorem kVc_at {m : M} {ms : List M} : kVc m QMs ms e = QMs (m :: ms) e := rfl
@[simp] theorem wp_vN : wp vN e QMs E = QMs [] e := rfl
@[simp] theorem wp_vD {fv : EM (List M)} : wp (vD f fv) e QMs E = wp f e (kVd fv QMs E) E := by unfold vD; rw [wp_bnd]; congr; funext d e1; rw [wp_bnd]; rfl
@[simp] theorem kVd_at {fv : EM (List M)} {d : D} {e1 : Env} : kVd fv QMs E d e1 = wp fv e1 (kVc (.im d) QMs) E := rfl
def kVm (gs : Env → Option (List D)) (Q : List M → Env → Prop) : M → Env → Prop := fun m e => wpo (gs e) (fun ds e => Q (m :: ds.map .im) e) e
@[simp] theorem wp_vM : wp (vM fm gs) e QMs E = wp fm e (kVm gs QMs) E := by unfold vM; rw [wp_bnd]; congr; funext d e1; rw [wp_bnd, wp_qE]; rfl
@[simp] theorem kVm_at {m : M} {e1 : Env} : kVm gs QMs m e1 = wpo (gs e1) (fun ds e => QMs (m :: ds.map .im) e) e1 := rfl
def kMake (Fs : List M → FOut) (C : Str) (Q : M → Env → Prop) : List M → Env → Prop := fun ms e => wpR (Fs (.ob C [] :: ms)) (kMk Q e)
@[simp] theorem wp_makeV {Fs : List M → FOut} {C : Str} {fv : EM (List M)} : wp (makeV Fs C fv) e QM E = wp fv e (kMake Fs C QM) E := by
  unfold makeV; rw [wp_bnd]; congr; funext ms e1; rw [wp_mkF]; rfl
@[simp] theorem kMake_at {Fs : List M → FOut} {C : Str} {ms : List M} : kMake Fs C QM ms e = wpR (Fs (.ob C [] :: ms)) (kMk QM e) := rfl
def kFrzM (Q : D → Env → Prop) : M → Env → Prop := fun m e => wpo m.toD Q e
@[simp] theorem wp_frzM : wp (frzM fm) e Q E = wp fm e (kFrzM Q) E := by unfold frzM; rw [wp_bnd]; congr; funext m e1; rw [wp_lif]; rfl
@[simp] theorem kFrzM_at {m : M} : kFrzM Q m e = wpo m.toD Q e := rfl
def kExM (Q : Flow → Env → Prop) : M → Env → Prop := fun _ e => Q .nxt e
@[simp] theorem wp_exprM : wp (exprM fm) e QS E = wp fm e (kExM QS) E := by unfold exprM; rw [wp_bnd]; rfl
@[simp] theorem kExM_at {m : M} : kExM QS m e = QS .nxt e := rfl
def kMethT (C m : Str) (Fs : List M → FOut) (gs : Env → Option (List D)) (Q : M → Env → Prop) : M → Env → Prop := fun r e => isOb C m r = true ∧ wpo (gs e) (fun ds e => wpR (Fs (r :: ds.map .im)) (kGive Q e)) e
@[simp] theorem wp_methT {C m : Str} {Fs : List M → FOut} : wp (methT C m Fs fm gs) e QM E = wp fm e (kMethT C m Fs gs QM) E := by
  unfold methT
  rw [wp_bnd]
  congr
  funext r e1
  unfold kMethT
  cases ho : isOb C m r with
  | false => simp only [Bool.false_eq_true, if_false, false_and]; rfl
  | true =>
    simp only [if_true, true_and]
    rw [wp_bnd, wp_qE]
    congr
    funext ds e2
    rw [wp_giveF]
@[simp] theorem kMethT_at {C m : Str} {Fs : List M → FOut} {r : M} : kMethT C m Fs gs QM r e = (isOb C m r = true ∧ wpo (gs e) (fun ds e => wpR (Fs (r :: ds.map .im)) (kGive QM e)) e) := rfl
def fldOf (C f : Str) : M → Option D
  | .ob C' fs => if C' = C then (fs.lookup f).bind M.toD else none
  | _ => none
def kFldT (C f : Str) (Q : D → Env → Prop) : M → Env → Prop := fun m e => wpo (fldOf C f m) Q e
@[simp] theorem wp_fldT {C f : Str} : wp (fldT C f fm) e Q E = wp fm e (kFldT C f Q) E := by
  unfold fldT; rw [wp_bnd]; congr; funext m e1; rw [wp_lif]; unfold kFldT; cases m <;> rfl
@[simp] theorem kFldT_at {C f : Str} {m : M} : kFldT C f Q m e = wpo (fldOf C f m) Q e := rfl
/-! ### lists of owned things, displays -/
def kAppO (i : Nat) (Q : Flow → Env → Prop) : M → Env → Prop := fun m e => match e[i]? with
  | some (some (.ls ms)) => ms.length + 1 ≤ 1000000 ∧ Q .nxt (e.set i (some (.ls (ms ++ [m]))))
  | _ => False
@[simp] theorem wp_appOS : wp (appOS i fm) e QS E = (isLs i e = true ∧ wp fm e (kAppO i QS) E) := by
  unfold appOS wp
  dsimp only
  by_cases h : isLs i e = true
  rotate_left
  · rw [if_neg h]; simp [h]
  · rw [if_pos h]
    simp only [h, true_and]
    unfold bnd
    cases fm e with
    | no => rfl
    | ex => rfl
    | ok m e1 =>
      dsimp only
      unfold appO kAppO
      cases e1[i]? with
      | none => rfl
      | some o =>
        cases o with
        | none => rfl
        | some m1 =>
          cases m1 with
          | ls ms =>
            dsimp only
            by_cases hz : few (ms.length + 1) = true
            · rw [if_pos hz]; have := few_le hz; simp only [few_lit, decide_eq_true_eq] at hz; simp [hz]
            · rw [if_neg hz]; simp only [few_lit, decide_eq_true_eq] at hz; simp [hz]
          | _ => rfl
def kDisp (ks : List Str) (Q : M → Env → Prop) : List D → Env → Prop := fun ds e => ds.length = ks.length ∧ ks.Nodup ∧ Q (.dk ((ks.map Sum.inr).zip (ds.map .im))) e
@[simp] theorem wp_dispM {ks : List Str} : wp (dispM ks fs) e QM E = wp fs e (kDisp ks QM) E := by
  unfold dispM
  rw [wp_bnd]
  congr
  funext ds e1
  unfold kDisp
  by_cases hc : ds.length = ks.length ∧ ks.Nodup
  · rw [if_pos hc]; simp [hc]
  · rw [if_neg hc, ← and_assoc]; simp only [wp]; simp [hc]
@[simp] theorem kDisp_at {ks : List Str} {ds : List D} : kDisp ks QM ds e = (ds.length = ks.length ∧ ks.Nodup ∧ QM (.dk ((ks.map Sum.inr).zip (ds.map .im))) e) := rfl
def kForM (i : Nat) (g : EM Flow) (Q : Flow → Env → Prop) (E : EX) : M → Env → Prop := fun m e => match m with
  | .ls ms => wp (loopM i g ms) e Q E
  | _ => False
@[simp] theorem wp_forM {g : EM Flow} : wp (forM i fm g) e QS E = wp fm e (kForM i g QS E) E := by
  unfold forM; rw [wp_bnd]; congr; funext m e1; cases m <;> rfl
/-! ### a comprehension whose turns change things -/
end
end FD
/-! A gap clears by its last strike just where it clears by its first one. -/
namespace GP
/-- the gap between lo and hi clears; G: a letter goes between two others -/
inductive Op (G : Nat → Nat → Nat → Bool) (x : Nat → Nat) : Nat → Nat → Prop
  | one (lo : Nat) : Op G x lo (lo + 1)
  | mid {lo k hi : Nat} : lo < k → k < hi → G (x lo) (x k) (x hi) = true → Op G x lo k → Op G x k hi → Op G x lo hi
variable {G : Nat → Nat → Nat → Bool} {x y : Nat → Nat}
theorem Op.lt {lo hi : Nat} (h : Op G x lo hi) : lo < hi := by
  cases h with
  | one => omega
  | mid => omega
theorem Op.map {lo hi : Nat} (h : Op G x lo hi) : ∀ (s : Nat → Nat), (∀ i, lo ≤ i → i < hi → s (i + 1) = s i + 1) → (∀ i, lo ≤ i → i ≤ hi → y (s i) = x i) → Op G y (s lo) (s hi) := by
  induction h with
  | one lo =>
    intro s h1 _
    rw [h1 lo (by omega) (by omega)]
    exact .one _
  | @mid lo k hi a b g o1 o2 i1 i2 =>
    intro s h1 h2
    have mono : ∀ d, lo + d ≤ hi → s (lo + d) = s lo + d := by
      intro d
      induction d with
      | zero => intro _; rfl
      | succ d ih => intro hd; rw [show lo + (d + 1) = (lo + d) + 1 by omega, h1 (lo + d) (by omega) (by omega), ih (by omega)]; omega
    have mk := mono (k - lo) (by omega)
    have mh := mono (hi - lo) (by omega)
    rw [show lo + (k - lo) = k by omega] at mk
    rw [show lo + (hi - lo) = hi by omega] at mh
    refine .mid (k := s k) (by omega) (by omega) ?_ (i1 s (fun i p q => h1 i p (by omega)) fun i p q => h2 i p (by omega)) (i2 s (fun i p q => h1 i (by omega) q) fun i p q => h2 i (by omega) q)
    rw [h2 lo (by omega) (by omega), h2 k (by omega) (by omega), h2 hi (by omega) (by omega)]
    exact g
/-- the letters but the one at k -/
def del (x : Nat → Nat) (k i : Nat) : Nat := if i < k then x i else x (i + 1)
theorem del_lt {k i : Nat} (h : i < k) : del x k i = x i := if_pos h
theorem Op.left {lo hi k : Nat} (h : hi < k) : Op G (del x k) lo hi ↔ Op G x lo hi :=
  ⟨fun o => o.map id (fun _ _ _ => rfl) fun i _ q => (del_lt (show i < k by omega)).symm, fun o => o.map id (fun _ _ _ => rfl) fun i _ q => del_lt (show i < k by omega)⟩
end GP
/-! FD: the forward machine for frozen views, constructors with keywords, lists of lists. -/
namespace FD
open PySem L2
section
variable {α : Type} {QX : α → Env → Prop} {Q : D → Env → Prop} {QB : Bool → Env → Prop} {QL : List D → Env → Prop} {QM : M → Env → Prop} {QMs : List M → Env → Prop} {QS : Flow → Env → Prop} {E : EX} {e : Env} {i : Nat} {π : Way}
variable {f fa fb fo : EM D} {fs fk : EM (List D)} {fm fn : EM M} {fv : EM (List M)} {g gk : Env → Option D} {gs : Env → Option (List D)}
def kGF (C f : Str) : Option (Option M) → Option D
  | some (some (.fz C' fds)) => if C' = C then fds.lookup f else none
  | _ => none
@[simp] theorem getF_at {C f : Str} : getF i C f e = kGF C f e[i]? := by
  unfold getF kGF
  cases e[i]? with
  | none => rfl
  | some o => cases o with
    | none => rfl
    | some m => cases m <;> rfl
@[simp] theorem kGF_at {C f : Str} {fds : List (Str × D)} : kGF C f (some (some (.fz C fds))) = fds.lookup f := if_pos rfl
def kMethZ (C m : Str) (Fs : List M → FOut) (o : Option (List D)) (Q : M → Env → Prop) (e : Env) : Option (Option M) → Prop
  | some (some (.fz C' fds)) => C' = C ∧ fds.lookup m = none ∧ match o with
    | some ds => wpR (Fs (.fz C fds :: ds.map .im)) (kGive Q e)
    | none => False
  | _ => False
@[simp] theorem wp_methZ {C m : Str} {Fs : List M → FOut} : wp (methZ i C m Fs gs) e QM E = kMethZ C m Fs (gs e) QM e e[i]? := by
  unfold wp methZ kMethZ
  cases e[i]? with
  | none => rfl
  | some o => cases o with
    | none => rfl
    | some n =>
      cases n with
      | fz C' fds =>
        dsimp only
        by_cases h : C' = C ∧ fds.lookup m = none
        · rw [if_pos h]
          cases hg : gs e with
          | none => simp [h]
          | some ds =>
            dsimp only
            rw [show (C' = C) = True from eq_true h.1, show (fds.lookup m = none) = True from eq_true h.2, true_and, true_and]
            exact wp_giveF (QM := QM) (E := E)
        · rw [if_neg h]
          simp only [eq_iff_iff, false_iff]
          exact fun z => h ⟨z.1, z.2.1⟩
      | _ => rfl
@[simp] theorem kMethZ_at {C m : Str} {Fs : List M → FOut} {fds : List (Str × D)} {ds : List D} : kMethZ C m Fs (some ds) QM e (some (some (.fz C fds))) = (fds.lookup m = none ∧ wpR (Fs (.fz C fds :: ds.map .im)) (kGive QM e)) := by simp [kMethZ]
def kRo (Q : M → Env → Prop) (e : Env) : M → List M → Prop := fun r _ => tidyM r = true ∧ Q r e
@[simp] theorem kRo_at {r : M} {ms : List M} : kRo QM e r ms = (tidyM r = true ∧ QM r e) := rfl
def kMethR (C m : Str) (Fs : List M → FOut) (o : Option (List D)) (Q : M → Env → Prop) (e : Env) : Option M → Prop
  | some (.ob C' fms) => C' = C ∧ fms.lookup m = none ∧ match frzF fms, o with
    | some fds, some ds => wpR (Fs (.fz C fds :: ds.map .im)) (kRo Q e)
    | _, _ => False
  | _ => False
@[simp] theorem wp_methR {C m : Str} {Fs : List M → FOut} : wp (methR i π C m Fs gs) e QM E = kMethR C m Fs (gs e) QM e (pgM i π e) := by
  unfold wp methR kMethR
  cases pgM i π e with
  | none => rfl
  | some n =>
    cases n with
    | ob C' fms =>
      dsimp only
      by_cases h : C' = C ∧ fms.lookup m = none
      · rw [if_pos h, show (C' = C) = True from eq_true h.1, show (fms.lookup m = none) = True from eq_true h.2, true_and, true_and]
        cases hf : frzF fms with
        | none => rfl
        | some fds =>
          cases hg : gs e with
          | none => rfl
          | some ds =>
            dsimp only
            unfold roF wpR kRo
            cases Fs (.fz C fds :: ds.map .im) with
            | no => rfl
            | ex _ _ _ => rfl
            | ok r ms =>
              dsimp only
              by_cases ht : tidyM r = true
              · rw [if_pos ht]; simp [ht]
              · rw [if_neg ht]; simp [ht]
      · rw [if_neg h]
        simp only [eq_iff_iff, false_iff]
        exact fun z => h ⟨z.1, z.2.1⟩
    | _ => rfl
def kMkK1 (Fs : List M → FOut) (C : Str) (n m : Nat) (ix : List (Nat ⊕ Nat)) (ds : List D) (fk : EM (List D)) (Q : M → Env → Prop) (E : EX) : List D → Env → Prop := fun as e1 => wp fk e1 (fun bs e2 => (as.length = n ∧ bs.length = m) ∧ wpR (Fs (.ob C [] :: (pick (as ++ bs) ds ix).map .im)) (kMk Q e2)) E
def kMkK2 (Fs : List M → FOut) (C : Str) (n m : Nat) (ix : List (Nat ⊕ Nat)) (ds : List D) (as : List D) (Q : M → Env → Prop) : List D → Env → Prop := fun bs e2 => (as.length = n ∧ bs.length = m) ∧ wpR (Fs (.ob C [] :: (pick (as ++ bs) ds ix).map .im)) (kMk Q e2)
@[simp] theorem wp_makeK {Fs : List M → FOut} {C : Str} {n m : Nat} {ix : List (Nat ⊕ Nat)} {ds : List D} : wp (makeK Fs C n m ix ds fs fk) e QM E = wp fs e (kMkK1 Fs C n m ix ds fk QM E) E := by
  unfold makeK
  rw [wp_bnd]
  congr
  funext as e1
  rw [wp_bnd]
  unfold kMkK1
  congr
  funext bs e2
  by_cases h : as.length = n ∧ bs.length = m
  · rw [if_pos h, wp_mkF]; simp [h]
  · rw [if_neg h]
    simp only [eq_iff_iff]
    exact ⟨fun z => (show False from z).elim, fun z => (h z.1).elim⟩
@[simp] theorem kMkK1_at {Fs : List M → FOut} {C : Str} {n m : Nat} {ix : List (Nat ⊕ Nat)} {ds as : List D} {e1 : Env} : kMkK1 Fs C n m ix ds fk QM E as e1 = wp fk e1 (kMkK2 Fs C n m ix ds as QM) E := rfl
@[simp] theorem kMkK2_at {Fs : List M → FOut} {C : Str} {n m : Nat} {ix : List (Nat ⊕ Nat)} {ds as bs : List D} {e2 : Env} : kMkK2 Fs C n m ix ds as QM bs e2 = ((as.length = n ∧ bs.length = m) ∧ wpR (Fs (.ob C [] :: (pick (as ++ bs) ds ix).map .im)) (kMk QM e2)) := rfl
def kVmm1 (fv : EM (List M)) (Q : List M → Env → Prop) (E : EX) : M → Env → Prop := fun m e => wp fv e (fun ms e1 => Q (m :: ms) e1) E
@[simp] theorem wp_vMM : wp (vMM fm fv) e QMs E = wp fm e (kVmm1 fv QMs E) E := by unfold vMM; rw [wp_bnd]; congr; funext m e1; rw [wp_bnd]; rfl
@[simp] theorem kVmm1_at {m : M} : kVmm1 fv QMs E m e = wp fv e (kVc m QMs) E := rfl
def kFlds (i : Nat) (π : Way) (C : Str) (fl : List Str) (Q : Flow → Env → Prop) : List M → Env → Prop := fun ms e => ms.length ≤ 1000000 ∧ match setFs i π C fl ms e with
  | some e' => Q .nxt e'
  | none => False
@[simp] theorem wp_fldsS {C : Str} {fl : List Str} : wp (fldsS i π C fl fv) e QS E = wp fv e (kFlds i π C fl QS) E := by
  unfold fldsS
  rw [wp_bnd]
  congr
  funext ms e1
  unfold kFlds wp
  dsimp only
  by_cases h : ms.length ≤ 1000000
  · rw [if_pos (few_le' h), show (ms.length ≤ 1000000) = True from eq_true h, true_and]
    cases setFs i π C fl ms e1 <;> rfl
  · have : few ms.length = false := by simp [few, h]
    rw [this]
    simp [h]
def kIdx1 (fa : EM D) (Q : D → Env → Prop) (E : EX) : D → Env → Prop := fun x e => match x with
  | .list ds => wp fa e (fun y e2 => wpo (indexD (.list ds) y) Q e2) E
  | _ => False
def kIdx2 (ds : List D) (Q : D → Env → Prop) : D → Env → Prop := fun y e2 => wpo (indexD (.list ds) y) Q e2
@[simp] theorem wp_idxE : wp (idxE fo fa) e Q E = wp fo e (kIdx1 fa Q E) E := by
  unfold idxE
  rw [wp_bnd]
  congr
  funext x e1
  cases x with
  | list ds => dsimp only [kIdx1]; rw [wp_bnd]; congr; funext y e2; rw [wp_lif]
  | _ => rfl
@[simp] theorem kIdx1_at {ds : List D} {e1 : Env} : kIdx1 fa Q E (.list ds) e1 = wp fa e1 (kIdx2 ds Q) E := rfl
@[simp] theorem kIdx2_at {ds : List D} {y : D} {e1 : Env} : kIdx2 ds Q y e1 = wpo (indexD (.list ds) y) Q e1 := rfl
def kRg (Q : M → Env → Prop) : D → Env → Prop := fun d e => match rgD .list [d] with
  | some (.list ds) => Q (.ls (ds.map .im)) e
  | _ => False
@[simp] theorem wp_rgM : wp (rgM f) e QM E = wp f e (kRg QM) E := by
  unfold rgM
  rw [wp_bnd]
  congr
  funext d e1
  unfold kRg
  cases rgD .list [d] with
  | none => rfl
  | some x => cases x <;> rfl
def kLsX (Q : M → Env → Prop) : D → Env → Prop := fun d e => match d with
  | .list ds => Q (.ls (ds.map .im)) e
  | .tuple ds => Q (.ls (ds.map .im)) e
  | .str z => z.length ≤ 1000000 ∧ Q (.ls ((chars z).map .im)) e
  | _ => False
@[simp] theorem wp_lsX : wp (lsX f) e QM E = wp f e (kLsX QM) E := by
  unfold lsX
  rw [wp_bnd]
  congr
  funext d e1
  cases d with
  | str z =>
    dsimp only [kLsX]
    by_cases h : z.length ≤ 1000000
    · rw [if_pos (few_le' h)]; simp [h]
    · have : few z.length = false := by simp [few, h]
      rw [this]; simp [h]; exact id
  | _ => rfl
@[simp] theorem kLsX_l {ds : List D} : kLsX QM (.list ds) e = QM (.ls (ds.map .im)) e := rfl
@[simp] theorem kLsX_t {ds : List D} : kLsX QM (.tuple ds) e = QM (.ls (ds.map .im)) e := rfl
@[simp] theorem kLsX_s {z : Str} : kLsX QM (.str z) e = (z.length ≤ 1000000 ∧ QM (.ls ((chars z).map .im)) e) := rfl
def kPm1 (i j : Nat) (fn : EM M) (Q : Flow → Env → Prop) (E : EX) : M → Env → Prop := fun m e => wp fn e (fun n e2 => j < e2.length ∧ i < e2.length ∧ Q .nxt ((e2.set j (some n)).set i (some m))) E
def kPm2 (i j : Nat) (m : M) (Q : Flow → Env → Prop) : M → Env → Prop := fun n e2 => j < e2.length ∧ i < e2.length ∧ Q .nxt ((e2.set j (some n)).set i (some m))
@[simp] theorem wp_parMM {j : Nat} : wp (parMM i j fm fn) e QS E = wp fm e (kPm1 i j fn QS E) E := by
  unfold parMM
  rw [wp_bnd]
  congr
  funext m e1
  rw [wp_bnd]
  unfold kPm1
  congr
  funext n e2
  unfold wp seqS stoM
  by_cases h1 : j < e2.length
  · by_cases h2 : i < e2.length
    · simp [h1, h2]
    · simp [h1, h2]
  · simp [h1]
@[simp] theorem kPm1_at {j : Nat} {m : M} {e1 : Env} : kPm1 i j fn QS E m e1 = wp fn e1 (kPm2 i j m QS) E := rfl
@[simp] theorem kPm2_at {j : Nat} {m n : M} {e2 : Env} : kPm2 i j m QS n e2 = (j < e2.length ∧ i < e2.length ∧ QS .nxt ((e2.set j (some n)).set i (some m))) := rfl
def kPk0 {β : Type} (k : M → Option β) (Q : β → Env → Prop) (e : Env) : Option M → Prop
  | some m => wpo (k m) Q e
  | none => False
@[simp] theorem wp_pk0 {k : M → Option α} : wp (pk0 i π k) e QX E = kPk0 k QX e (pgM i π e) := by
  unfold wp pk0 kPk0
  cases pgM i π e with
  | none => rfl
  | some m => dsimp only; cases k m <;> rfl
@[simp] theorem kPk0_at {k : M → Option α} {m : M} : kPk0 k QX e (some m) = wpo (k m) QX e := rfl
def kRepN (n : Nat) (Q : D → Env → Prop) : M → Env → Prop := fun m e => match m with
  | .ls ms => match imAll ms with
    | some ds => ds.length * n ≤ 1000000 ∧ Q (.list (List.replicate n ds).flatten) e
    | none => False
  | _ => False
@[simp] theorem wp_repN {n : Nat} : wp (repN fm n) e Q E = wp fm e (kRepN n Q) E := by
  unfold repN
  rw [wp_bnd]
  congr
  funext m e1
  cases m with
  | ls ms =>
    dsimp only [kRepN]
    cases imAll ms with
    | none => rfl
    | some ds =>
      dsimp only
      by_cases h : ds.length * n ≤ 1000000
      · rw [if_pos (few_le' h)]; simp [h]
      · have : few (ds.length * n) = false := by simp [few, h]
        rw [this]; simp [h]; exact id
  | _ => rfl
@[simp] theorem kRepN_at {n : Nat} {ds : List D} : kRepN n Q (.ls (ds.map .im)) e = (ds.length * n ≤ 1000000 ∧ Q (.list (List.replicate n ds).flatten) e) := by
  unfold kRepN; simp only [imAll_im]
end
end FD
/-! FD: the forward machine for frozen objects handed about. -/
namespace FD
open PySem L2
section
variable {α : Type} {Q : D → Env → Prop} {QB : Bool → Env → Prop} {QM : M → Env → Prop} {QS : Flow → Env → Prop} {E : EX} {e : Env} {i j : Nat}
variable {fm : EM M} {gs : Env → Option (List D)}
def kFrzO (Q : M → Env → Prop) : M → Env → Prop := fun m e => wpo (frzN m) Q e
@[simp] theorem wp_frzO : wp (frzO fm) e QM E = wp fm e (kFrzO QM) E := by
  unfold frzO
  rw [wp_bnd]
  congr
  funext m e1
  rw [wp_lif]
  rfl
def kMtz (C m : Str) (Fs : List M → FOut) (gs : Env → Option (List D)) (Q : M → Env → Prop) : M → Env → Prop := fun r e1 => match r with
  | .fz C' fds => C' = C ∧ fds.lookup m = none ∧ match gs e1 with
    | some ds => wpR (Fs (.fz C fds :: ds.map .im)) (kGive Q e1)
    | none => False
  | _ => False
@[simp] theorem wp_methTZ {C m : Str} {Fs : List M → FOut} : wp (methTZ C m Fs fm gs) e QM E = wp fm e (kMtz C m Fs gs QM) E := by
  unfold methTZ
  rw [wp_bnd]
  congr
  funext r e1
  cases r with
  | fz C' fds =>
    unfold kMtz
    dsimp only
    by_cases h : C' = C ∧ fds.lookup m = none
    · rw [if_pos h, wp_bnd, wp_qE]
      rw [show (C' = C) = True from eq_true h.1, show (fds.lookup m = none) = True from eq_true h.2, true_and, true_and]
      cases hg : gs e1 with
      | none => rfl
      | some ds =>
        dsimp only
        exact wp_giveF (QM := QM) (E := E)
    · rw [if_neg h]
      simp only [eq_iff_iff]
      exact ⟨fun z => z.elim, fun z => h ⟨z.1, z.2.1⟩⟩
  | _ => rfl
@[simp] theorem kMtz_at {C m : Str} {Fs : List M → FOut} {fds : List (Str × D)} : kMtz C m Fs gs QM (.fz C fds) e = (fds.lookup m = none ∧ match gs e with
    | some ds => wpR (Fs (.fz C fds :: ds.map .im)) (kGive QM e)
    | none => False) := by simp [kMtz]
def kIsi (C : Str) (Q : D → Env → Prop) (e : Env) : Option (Option M) → Prop
  | some (some (.fz C' _)) => C' = C ∧ Q (.bool true) e
  | _ => False
@[simp] theorem wp_isiZ {C : Str} : wp (isiZ i C) e Q E = kIsi C Q e e[i]? := by
  unfold wp isiZ kIsi
  cases e[i]? with
  | none => rfl
  | some o => cases o with
    | none => rfl
    | some n =>
      cases n with
      | fz C' fds =>
        dsimp only
        by_cases h : C' = C <;> simp [h]
      | _ => rfl
@[simp] theorem kIsi_at {C : Str} {fds : List (Str × D)} : kIsi C Q e (some (some (.fz C fds))) = Q (.bool true) e := by simp [kIsi]
end
end FD
/-! FD: the forward machine for functions that look at objects, owned tuples, own lengths. -/
namespace FD
open PySem L2
section
variable {α : Type} {Q : D → Env → Prop} {QB : Bool → Env → Prop} {QM : M → Env → Prop} {QS : Flow → Env → Prop} {E : EX} {e : Env} {i j : Nat}
variable {fm : EM M} {fv : EM (List M)} {g : Env → Option D} {as : List ZA}
def kZat : Option (Option M) → Option M
  | some (some (.ob C fms)) => (frzF fms).map fun fds => .fz C fds
  | some (some (.fz C fds)) => some (.fz C fds)
  | _ => none
@[simp] theorem zAt_at : zAt i e = kZat e[i]? := by
  unfold zAt kZat
  cases e[i]? with
  | none => rfl
  | some o => cases o with
    | none => rfl
    | some m => cases m <;> rfl
@[simp] theorem kZat_fz {C : Str} {fds : List (Str × D)} : kZat (some (some (.fz C fds))) = some (.fz C fds) := rfl
@[simp] theorem zaV_nil : zaV e [] = some [] := rfl
@[simp] theorem zaV_z : zaV e (.z i :: as) = (zAt i e).bind fun m => (zaV e as).map (m :: ·) := rfl
@[simp] theorem zaV_d : zaV e (.d g :: as) = (g e).bind fun d => (zaV e as).map (.im d :: ·) := rfl
@[simp] theorem zaV_l : zaV e (.l i :: as) = (lAt i e).bind fun d => (zaV e as).map (.im d :: ·) := rfl
def kLat : Option (Option M) → Option D
  | some (some (.ls ms)) => (imAll ms).map .list
  | _ => none
@[simp] theorem lAt_at : lAt i e = kLat e[i]? := by
  unfold lAt kLat
  cases e[i]? with
  | none => rfl
  | some o => cases o with
    | none => rfl
    | some m => cases m <;> rfl
@[simp] theorem kLat_ls {ms : List M} : kLat (some (some (.ls ms))) = (imAll ms).map .list := rfl
def kCz (Fs : List M → FOut) (Q : M → Env → Prop) (e : Env) : Option (List M) → Prop
  | some ms => wpR (Fs ms) (kRo Q e)
  | none => False
@[simp] theorem wp_callZ {Fs : List M → FOut} : wp (callZ Fs as) e QM E = kCz Fs QM e (zaV e as) := by
  unfold wp callZ kCz
  cases zaV e as with
  | none => rfl
  | some ms =>
    dsimp only
    unfold roZ wpR
    cases Fs ms with
    | ok r ms' =>
      dsimp only
      unfold kRo
      cases h : tidyM r <;> simp
    | _ => rfl
@[simp] theorem kCz_at {Fs : List M → FOut} {ms : List M} : kCz Fs QM e (some ms) = wpR (Fs ms) (kRo QM e) := rfl
def kTupV (Q : M → Env → Prop) : List M → Env → Prop := fun ms e => ms.length ≤ 1000000 ∧ Q (.tp ms) e
@[simp] theorem wp_tupV : wp (tupV fv) e QM E = wp fv e (kTupV QM) E := by
  unfold tupV
  rw [wp_bnd]
  congr
  funext ms e1
  unfold kTupV
  by_cases h : ms.length ≤ 1000000
  · have : few ms.length = true := decide_eq_true h
    rw [if_pos this]; simp [h]
  · have : few ms.length = false := decide_eq_false h
    rw [this]
    simp [h]
    exact fun z => z
@[simp] theorem kTupV_at {ms : List M} : kTupV QM ms e = (ms.length ≤ 1000000 ∧ QM (.tp ms) e) := rfl
def kAsgT (i j : Nat) (Q : Flow → Env → Prop) : M → Env → Prop := fun m e => match m with
  | .tp [m1, m2] => (i < e.length ∧ j < e.length) ∧ Q .nxt ((e.set i (some m1)).set j (some m2))
  | _ => False
@[simp] theorem wp_asgT : wp (asgT i j fm) e QS E = wp fm e (kAsgT i j QS) E := by
  unfold asgT
  rw [wp_bnd]
  congr
  funext m e1
  cases m with
  | tp ms =>
    match ms with
    | [] => rfl
    | [_] => rfl
    | _ :: _ :: _ :: _ => rfl
    | [m1, m2] =>
      unfold wp kAsgT
      dsimp only
      by_cases h : i < e1.length ∧ j < e1.length
      · have : (decide (i < e1.length) && decide (j < e1.length)) = true := by simp [h]
        rw [if_pos this]
        simp [h]
      · have : ¬ (decide (i < e1.length) && decide (j < e1.length)) = true := by simpa using h
        rw [if_neg this]
        simp [h]
  | _ => rfl
@[simp] theorem kAsgT_at {m1 m2 : M} : kAsgT i j QS (.tp [m1, m2]) e = ((i < e.length ∧ j < e.length) ∧ QS .nxt ((e.set i (some m1)).set j (some m2))) := rfl
end
end FD
/-! FD: the forward machine for errors, lambdas, more. -/
namespace FD
open PySem L2
/-- a def that may raise -/
@[irreducible] def wpX (o : FOut) (K : M → List M → Prop) (E : Str → List (Str × D) → List M → Prop) : Prop := match o with
  | .ok r ms => K r ms
  | .ex C fs ms => E C fs ms
  | .no => False
section
variable {Q : D → Env → Prop} {QB : Bool → Env → Prop} {QL : List D → Env → Prop} {QM : M → Env → Prop} {QS : Flow → Env → Prop} {E : EX} {e : Env} {fa : EM D} {g : EM Flow}
def kGoX (as : List AR) (n : Nat) (E : EX) (e : Env) : Str → List (Str × D) → List M → Prop := fun C fs ms' => ms'.length = n ∧ E C fs (putB e as ms')
@[simp] theorem kGoX_at {as : List AR} {n : Nat} {C : Str} {fs : List (Str × D)} {ms : List M} : kGoX as n E e C fs ms = (ms.length = n ∧ E C fs (putB e as ms)) := rfl
def kCallX (Fs : List M → FOut) (Q : M → Env → Prop) (E : EX) : List AR → Env → Prop := fun as e => (slotsOf as).Nodup ∧ ∃ ms, argM e as = some ms ∧ wpX (Fs ms) (kGo as ms.length Q e) (kGoX as ms.length E e)
def kCallX2 (Fs : List M → FOut) (as : List AR) (Q : M → Env → Prop) (E : EX) (e : Env) : Option (List M) → Prop
  | some ms => wpX (Fs ms) (kGo as ms.length Q e) (kGoX as ms.length E e)
  | none => False
@[simp] theorem wp_callMX {Fs : List M → FOut} {fr : EM (List AR)} : wp (callMX Fs fr) e QM E = wp fr e (kCallX Fs QM E) E := by
  unfold callMX; rw [wp_bnd]; congr; funext as e1
  unfold wp callAtX kCallX
  by_cases h : (slotsOf as).Nodup
  · simp only [h, if_true, true_and]
    cases q : argM e1 as with
    | none => simp
    | some ms =>
      simp only [Option.some.injEq, exists_eq_left']
      unfold wpX
      cases z : Fs ms with
      | ok r ms' => by_cases hl : ms'.length = ms.length <;> simp [hl]
      | ex C fs ms' => by_cases hl : ms'.length = ms.length <;> simp [hl]
      | no => rfl
  · simp [h]
@[simp] theorem kCallX_at {Fs : List M → FOut} {as : List AR} {e1 : Env} : kCallX Fs QM E as e1 = ((slotsOf as).Nodup ∧ kCallX2 Fs as QM E e1 (argM e1 as)) := by
  unfold kCallX
  cases q : argM e1 as with
  | none => simp [kCallX2]
  | some ms => simp only [Option.some.injEq, exists_eq_left']; rfl
@[simp] theorem kCallX2_at {Fs : List M → FOut} {as : List AR} {e1 : Env} {ms : List M} : kCallX2 Fs as QM E e1 (some ms) = wpX (Fs ms) (kGo as ms.length QM e1) (kGoX as ms.length E e1) := rfl
@[simp] theorem wp_callDX {Fs : List M → FOut} {fr : EM (List AR)} : wp (callDX Fs fr) e Q E = wp fr e (kCallX Fs (kToD Q) E) E := by
  unfold callDX; rw [wp_frzE, wp_callMX]
/-! ### raise, try, the kept error -/
def kRaise (C f : Str) (E : EX) : D → Env → Prop := fun d e => E C [(f, d)] e
@[simp] theorem wp_raiseS {C f : Str} : wp (raiseS C f fa) e QS E = wp fa e (kRaise C f E) E := by
  unfold raiseS; rw [wp_bnd]; rfl
@[simp] theorem kRaise_at {C f : Str} {d : D} {e1 : Env} : kRaise C f E d e1 = E C [(f, d)] e1 := rfl
def kTry2 (i j : Nat) (Q : Flow → Env → Prop) (E : EX) (C : Str) (fs : List (Str × D)) (e : Env) : Option Bool → Prop
  | some true => (j < e.length ∧ isHole e[i]? = true) ∧ Q .nxt (e.set j (some (.xc C fs)))
  | some false => E C fs e
  | none => False
def kTry (m : Str → Option Bool) (i j : Nat) (Q : Flow → Env → Prop) (E : EX) : EX := fun C fs e => kTry2 i j Q E C fs e (m C)
@[simp] theorem wp_tryK {m : Str → Option Bool} {i j : Nat} : wp (tryK m i j g) e QS E = wp g e QS (kTry m i j QS E) := by
  unfold wp tryK
  cases q : g e with
  | ok fl e1 => rfl
  | no => rfl
  | ex C fs e1 =>
    dsimp only
    unfold kTry
    cases z : m C with
    | none => rfl
    | some b => cases b with
      | false => rfl
      | true =>
        dsimp only [kTry2]
        by_cases h : (decide (j < e1.length) && isHole e1[i]?) = true
        · rw [if_pos h]
          rw [Bool.and_eq_true, decide_eq_true_eq] at h
          simp [h]
        · rw [if_neg h]
          rw [Bool.and_eq_true, decide_eq_true_eq] at h
          simp [h]
@[simp] theorem kTry_at {m : Str → Option Bool} {i j : Nat} {C : Str} {fs : List (Str × D)} {e1 : Env} : kTry m i j QS E C fs e1 = kTry2 i j QS E C fs e1 (m C) := rfl
@[simp] theorem kTry2_t {i j : Nat} {C : Str} {fs : List (Str × D)} {e1 : Env} : kTry2 i j QS E C fs e1 (some true) = ((j < e1.length ∧ isHole e1[i]? = true) ∧ QS .nxt (e1.set j (some (.xc C fs)))) := rfl
@[simp] theorem kTry2_f {i j : Nat} {C : Str} {fs : List (Str × D)} {e1 : Env} : kTry2 i j QS E C fs e1 (some false) = E C fs e1 := rfl
@[simp] theorem isHole_none : isHole (some none) = true := rfl
def kNonP (Q : Bool → Env → Prop) (e : Env) : Option (Option M) → Prop
  | some (some (.im d)) => Q (isNonD d) e
  | some (some (.xc _ _)) => Q false e
  | _ => False
@[simp] theorem wp_isNonP {i : Nat} : wp (isNonP i) e QB E = kNonP QB e e[i]? := by
  unfold wp isNonP
  cases e[i]? with
  | none => rfl
  | some o => cases o with
    | none => rfl
    | some m => cases m <;> rfl
@[simp] theorem kNonP_im {d : D} : kNonP QB e (some (some (.im d))) = QB (isNonD d) e := rfl
@[simp] theorem kNonP_xc {C : Str} {fs : List (Str × D)} : kNonP QB e (some (some (.xc C fs))) = QB false e := rfl
def kXf (C f : Str) (Q : D → Env → Prop) (e : Env) : Option (Option M) → Prop
  | some (some (.xc C' fs)) => C' = C ∧ wpo (fs.lookup f) Q e
  | _ => False
@[simp] theorem wp_xfE {i : Nat} {C f : Str} : wp (xfE i C f) e Q E = kXf C f Q e e[i]? := by
  unfold wp xfE
  cases e[i]? with
  | none => rfl
  | some o => cases o with
    | none => rfl
    | some m => cases m with
      | xc C' fs =>
        by_cases h : C' = C
        · simp only [kXf, h, if_true, true_and]
          cases fs.lookup f <;> rfl
        · simp [kXf, h]
      | _ => rfl
@[simp] theorem kXf_xc {C C' f : Str} {fs : List (Str × D)} : kXf C f Q e (some (some (.xc C' fs))) = (C' = C ∧ wpo (fs.lookup f) Q e) := rfl
/-! ### the lambda -/
def kLam (Fs : (V → Hp → Prop) → Dd → FOut) (fe : EM D) (Q : D → Env → Prop) (e : Env) : Prop := ∃ d, (∀ Φ, ∃ ms', Fs Φ (resD fe e) = .ok (.im d) ms') ∧ Q d e
@[simp] theorem wp_lamS {Fs : (V → Hp → Prop) → Dd → FOut} {fe : EM D} : wp (lamS Fs fe) e Q E = kLam Fs fe Q e := by
  apply propext
  constructor
  · intro h
    by_cases hx : ∃ d, ∀ Φ, ∃ ms', Fs Φ (resD fe e) = .ok (.im d) ms'
    · obtain ⟨d, hd⟩ := hx
      refine ⟨d, hd, ?_⟩
      unfold wp at h
      rw [lamS_eq hd] at h
      exact h
    · unfold wp lamS at h
      rw [dif_neg hx] at h
      exact h.elim
  · rintro ⟨d, hd, q⟩
    unfold wp
    rw [lamS_eq hd]
    exact q
def imO : Option M → Option M
  | some (.im d) => some (.im d)
  | some (.fz C fs) => some (.fz C fs)
  | _ => none
@[simp] theorem imO_im {d : D} : imO (some (.im d)) = some (.im d) := rfl
@[simp] theorem imO_fz {C : Str} {fs : List (Str × D)} : imO (some (.fz C fs)) = some (.fz C fs) := rfl
@[simp] theorem imO_none : imO none = none := rfl
@[simp] theorem imO_ls {ms : List M} : imO (some (.ls ms)) = none := rfl
@[simp] theorem imO_dk {ms : List (Key × M)} : imO (some (.dk ms)) = none := rfl
@[simp] theorem imO_dt {ms : List (List Key × M)} : imO (some (.dt ms)) = none := rfl
@[simp] theorem imO_ob {C : Str} {ms : List (Str × M)} : imO (some (.ob C ms)) = none := rfl
@[simp] theorem imO_gone : imO (some .gone) = none := rfl
def kDeed (r : Dd) (Q : D → Env → Prop) (E : EX) (e : Env) : Prop := match r with
  | .ok d => Q d e
  | .ex C fs => E C fs e
  | .no => False
@[simp] theorem wp_deedE {Φ : V → Hp → Prop} {r : Dd} : wp (deedE Φ r) e Q E = (e[0]? = some (some (.lm Φ)) ∧ kDeed r Q E e) := by
  unfold wp deedE
  by_cases h : e[0]? = some (some (.lm Φ))
  · rw [if_pos h]
    simp only [h, true_and]
    cases r <;> rfl
  · rw [if_neg h]
    simp [h]
@[simp] theorem kDeed_ok {d : D} : kDeed (.ok d) Q E e = Q d e := rfl
@[simp] theorem kDeed_ex {C : Str} {fs : List (Str × D)} : kDeed (.ex C fs) Q E e = E C fs e := rfl
end
/-! ### a, b, c, .. = .. -/
section
variable {QS : Flow → Env → Prop} {E : EX} {e : Env} {fm : EM M}
def kSt (Q : Flow → Env → Prop) : Option Env → Prop
  | some e' => Q .nxt e'
  | none => False
@[simp] theorem kSt_some {e' : Env} : kSt QS (some e') = QS .nxt e' := rfl
def kAsgN (is : List Nat) (Q : Flow → Env → Prop) : M → Env → Prop := fun m e => match m with
  | .tp ms => kSt Q (stoL is ms e)
  | _ => False
@[simp] theorem kAsgN_at {is : List Nat} {ms : List M} : kAsgN is QS (.tp ms) e = kSt QS (stoL is ms e) := rfl
@[simp] theorem wp_asgN {is : List Nat} : wp (asgN is fm) e QS E = wp fm e (kAsgN is QS) E := by
  unfold asgN
  rw [wp_bnd]
  congr
  funext m e1
  cases m with
  | tp ms =>
    simp only [kAsgN, wp]
    cases stoL is ms e1 <;> rfl
  | _ => rfl
@[simp] theorem stoL_nil : stoL [] [] e = some e := rfl
end
/-! ### defs that may raise -/
def kFinX (B : List Nat) (ms : List M) (E : Str → List (Str × D) → List M → Prop) : EX := fun C fs e => match backs B e 0 ms with
  | some ms' => E C fs ms'
  | none => False
def kBkX (C : Str) (fs : List (Str × D)) (E : Str → List (Str × D) → List M → Prop) : Option (List M) → Prop
  | some ms => E C fs ms
  | none => False
@[simp] theorem kBkX_at {C : Str} {fs : List (Str × D)} {E : Str → List (Str × D) → List M → Prop} {ms : List M} : kBkX C fs E (some ms) = E C fs ms := rfl
@[simp] theorem kFinX_at {B : List Nat} {ms : List M} {E : Str → List (Str × D) → List M → Prop} {C : Str} {fs : List (Str × D)} {e : Env} : kFinX B ms E C fs e = kBkX C fs E (backs B e 0 ms) := by
  unfold kFinX
  cases backs B e 0 ms <;> rfl
end FD
/-! FD: the forward machine: xs.pop(e), len of a made object. -/
namespace FD
open PySem L2
end FD
/-! FD: the forward machine: [x] * n. -/
namespace FD
variable [TabT]
open PySem L2
section
variable {Q : D → Env → Prop} {E : EX} {e : Env} {fs : EM (List D)} {fb : EM D}
def kRep2 (ds : List D) (Q : D → Env → Prop) : D → Env → Prop := fun k e => match k with
  | .int k => (-(2 ^ 63) ≤ k ∧ k < 2 ^ 63) ∧ ds.length * k.toNat ≤ 1000000 ∧ Q (.list (repL ds k)) e
  | _ => False
def kRep (fb : EM D) (Q : D → Env → Prop) (E : EX) : List D → Env → Prop := fun ds e => ds.length ≤ 1000000 ∧ wp fb e (kRep2 ds Q) E
@[simp] theorem wp_repE : wp (repE fs fb) e Q E = wp fs e (kRep fb Q E) E := by
  unfold repE
  rw [wp_bnd]
  congr
  funext ds e1
  unfold kRep
  by_cases h : ds.length ≤ 1000000
  · rw [if_pos (few_le' h), wp_bnd, eq_true h, true_and]
    congr
    funext k e2
    rw [wp_lif]
    cases k with
    | int k =>
      unfold kRep2
      dsimp only
      by_cases h1 : -(2 ^ 63) ≤ k ∧ k < 2 ^ 63
      · by_cases h2 : ds.length * k.toNat ≤ 1000000
        · have f2 := few_le' h2
          rw [decide_eq_true h1.1, decide_eq_true h1.2, f2, eq_true h1, eq_true h2, true_and, true_and]
          rfl
        · have f2 : few (ds.length * k.toNat) = false := by
            unfold few
            simpa using h2
          rw [f2, Bool.and_false, eq_false h2, false_and, and_false]
          rfl
      · rw [eq_false h1, false_and]
        have : (decide (-(2 ^ 63) ≤ k) && decide (k < 2 ^ 63) && few (ds.length * k.toNat)) = false := by
          rw [← Bool.not_eq_true, Bool.and_eq_true, Bool.and_eq_true, decide_eq_true_eq, decide_eq_true_eq]
          exact fun z => h1 z.1
        rw [this]
        rfl
    | _ => rfl
  · have f1 : few ds.length = false := by
      unfold few
      simpa using h
    rw [f1, eq_false h, false_and]
    rfl
@[simp] theorem kRep_at {ds : List D} : kRep fb Q E ds e = (ds.length ≤ 1000000 ∧ wp fb e (kRep2 ds Q) E) := rfl
@[simp] theorem kRep2_at {ds : List D} {k : Int} : kRep2 ds Q (.int k) e = ((-(2 ^ 63) ≤ k ∧ k < 2 ^ 63) ∧ ds.length * k.toNat ≤ 1000000 ∧ Q (.list (repL ds k)) e) := rfl
end
end FD
/-! FD: the forward machine: x = d.setdefault(k, []) under a name; isinstance of a kept error. -/
namespace FD
variable [TabT]
open PySem L2
section
variable {QS : Flow → Env → Prop} {Q : D → Env → Prop} {E : EX} {e : Env} {fk : EM D} {i j : Nat} {n : Int} {ga gb gv : Env → Option D}
def kIsx2 (Q : D → Env → Prop) (e : Env) : Option Bool → Prop
  | some b => Q (.bool b) e
  | none => False
def kIsx (m : Str → Option Bool) (Q : D → Env → Prop) (e : Env) : Option (Option M) → Prop
  | some (some (.xc C (_ :: _))) => kIsx2 Q e (m C)
  | _ => False
@[simp] theorem wp_isxE {m : Str → Option Bool} : wp (isxE i m) e Q E = kIsx m Q e e[i]? := by
  unfold wp isxE
  cases e[i]? with
  | none => rfl
  | some o => cases o with
    | none => rfl
    | some x => cases x with
      | xc C fs =>
        cases fs with
        | nil => rfl
        | cons p fs =>
          show _ = kIsx2 Q e (m C)
          dsimp only
          cases m C <;> rfl
      | _ => rfl
@[simp] theorem kIsx_xc {m : Str → Option Bool} {C : Str} {p : Str × D} {fs : List (Str × D)} : kIsx m Q e (some (some (.xc C (p :: fs)))) = kIsx2 Q e (m C) := rfl
@[simp] theorem kIsx2_at {b : Bool} : kIsx2 Q e (some b) = Q (.bool b) e := rfl
end
end FD
/-! FD: the forward machine: dict(pairs) to own, list of an owned dict, dict(zip(a, b)). -/
namespace FD
variable [TabT]
open PySem L2
section
variable {QM : M → Env → Prop} {Q : D → Env → Prop} {E : EX} {e : Env} {fa : EM D} {fs : EM (List D)} {i : Nat}
@[simp] theorem wp_pkListK : wp (pkListK i) e Q E = (has i e = true ∧ kPk i keysLD Q e (peekD i e)) := by
  unfold pkListK
  rw [wp_chk, wp_pk]
def kDc2 (QM : M → Env → Prop) (e : Env) : Option (List (Key × D)) → Prop
  | some kds => QM (.dk ((mrgD [] kds).map fun p => (p.1, .im p.2))) e
  | none => False
def kDc (QM : M → Env → Prop) : D → Env → Prop
  | .list ds, e => kDc2 QM e (pairsD ds)
  | _, _ => False
@[simp] theorem kDc_list {ds : List D} : kDc QM (.list ds) e = kDc2 QM e (pairsD ds) := rfl
@[simp] theorem kDc2_some {kds : List (Key × D)} : kDc2 QM e (some kds) = QM (.dk ((mrgD [] kds).map fun p => (p.1, .im p.2))) e := rfl
@[simp] theorem wp_dcO : wp (dcO fa) e QM E = wp fa e (kDc QM) E := by
  unfold dcO
  rw [wp_bnd]
  congr
  funext d e1
  cases d with
  | list ds =>
    show wp (match pairsD ds with | some kds => _ | none => _) e1 QM E = kDc2 QM e1 (pairsD ds)
    cases pairsD ds <;> rfl
  | _ => rfl
def kDz (QM : M → Env → Prop) : List D → Env → Prop
  | [.str x, .str y], e => x.cps.size ≤ 100 ∧ QM (.dk ((mrgD [] (zipKD x y)).map fun p => (p.1, .im p.2))) e
  | _, _ => False
@[simp] theorem kDz_two {x y : Str} : kDz QM [.str x, .str y] e = (x.cps.size ≤ 100 ∧ QM (.dk ((mrgD [] (zipKD x y)).map fun p => (p.1, .im p.2))) e) := rfl
end
end FD
/-! FD: tables of the module, split, calls with things to own: what they ask. -/
namespace FD
open PySem L2
section
variable {e : Env} {Q : D → Env → Prop} {QM : M → Env → Prop} {QL : List D → Env → Prop} {E : EX} {Fs : List M → FOut} {fv : EM (List M)} {fa fb : EM D} {fs : EM (List D)} {i : Nat} {asks : List (Str × Option M)}
def kCv (Fs : List M → FOut) (QM : M → Env → Prop) : List M → Env → Prop := fun ms e => wpR (Fs ms) (kGive QM e)
@[simp] theorem wp_callV : wp (callV Fs fv) e QM E = wp fv e (kCv Fs QM) E := by unfold callV; rw [wp_bnd]; congr; funext ms e1; rw [wp_giveF]; rfl
@[simp] theorem kCv_at {ms : List M} : kCv Fs QM ms e = wpR (Fs ms) (kGive QM e) := rfl
def kSp2 (x : Str) (Q : D → Env → Prop) : D → Env → Prop := fun y e => wpo (splitD x y) Q e
def kSp1 (fb : EM D) (Q : D → Env → Prop) (E : EX) : D → Env → Prop := fun d e => match d with
  | .str x => wp fb e (kSp2 x Q) E
  | _ => False
@[simp] theorem wp_splitE : wp (splitE fa fb) e Q E = wp fa e (kSp1 fb Q E) E := by
  unfold splitE
  rw [wp_bnd]
  congr
  funext d e1
  cases d <;> first | rfl | (dsimp only; rw [wp_bnd]; unfold kSp1; congr; funext y e2; rw [wp_lif]; rfl)
@[simp] theorem kSp1_str {x : Str} : kSp1 fb Q E (.str x) e = wp fb e (kSp2 x Q) E := rfl
@[simp] theorem kSp2_at {x : Str} {y : D} : kSp2 x Q y e = wpo (splitD x y) Q e := rfl
def kLz (Q : D → Env → Prop) : List D → Env → Prop := fun ds e => match ds with
  | [.str x, .str y] => x.cps.size ≤ 100000 ∧ Q (.list (zipLD x y)) e
  | _ => False
@[simp] theorem wp_lzE : wp (lzE fs) e Q E = wp fs e (kLz Q) E := by
  unfold lzE
  rw [wp_bnd]
  congr
  funext ds e1
  unfold kLz
  split
  · rename_i x y
    by_cases h : x.cps.size ≤ 100000
    · rw [decide_eq_true h, if_pos rfl]
      exact propext ⟨fun z => ⟨h, z⟩, fun z => z.2⟩
    · rw [decide_eq_false h, if_neg (by decide)]
      exact propext ⟨fun z => z.elim, fun z => absurd z.1 h⟩
  · rename_i hx
    first
      | rfl
      | (split
         · exact absurd rfl (hx _ _)
         · rfl)
@[simp] theorem kLz_at {x y : Str} : kLz Q [.str x, .str y] e = (x.cps.size ≤ 100000 ∧ Q (.list (zipLD x y)) e) := rfl
def kEnK (Q : List D → Env → Prop) (e : Env) : Option (Option M) → Prop := fun o => match ktAt o with
  | some ds => Q (enumDs ds) e
  | none => False
@[simp] theorem wp_enK : wp (enK i) e QL E = kEnK QL e e[i]? := by
  unfold wp enK kEnK
  cases ktAt e[i]? <;> rfl
@[simp] theorem kEnK_kt {ds : List D} : kEnK QL e (some (some (.kt ds))) = QL (enumDs ds) e := rfl
@[simp] theorem kEnK_im {ds : List D} : kEnK QL e (some (some (.im (.tuple ds)))) = QL (enumDs ds) e := rfl
def kLenK (Q : D → Env → Prop) (e : Env) : Option (Option M) → Prop := fun o => match ktAt o with
  | some ds => Q (.int (ds.length : Nat)) e
  | none => False
@[simp] theorem wp_lenK : wp (lenK i) e Q E = kLenK Q e e[i]? := by
  unfold wp lenK kLenK
  cases ktAt e[i]? <;> rfl
@[simp] theorem kLenK_kt {ds : List D} : kLenK Q e (some (some (.kt ds))) = Q (.int (ds.length : Nat)) e := rfl
@[simp] theorem kLenK_im {ds : List D} : kLenK Q e (some (some (.im (.tuple ds)))) = Q (.int (ds.length : Nat)) e := rfl
def kTix (asks : List (Str × Option M)) (Q : M → Env → Prop) : D → Env → Prop := fun d e => wpo ((tabL asks d).bind id) Q e
@[simp] theorem wp_tabIx : wp (tabIx asks fa) e QM E = wp fa e (kTix asks QM) E := by unfold tabIx; rw [wp_bnd]; congr; funext d e1; rw [wp_lif]; rfl
@[simp] theorem kTix_at {d : D} : kTix asks QM d e = wpo ((tabL asks d).bind id) QM e := rfl
end
end FD
/-! FD: xs[lo::n], functions asked, run forward. -/
namespace FD
open PySem L2
section
variable {Q : D → Env → Prop} {E : EX} {e : Env} {fa : EM D} {fl : EM (Option Int)} {fr : EM (List AR)}
def kSt1 (c : Int) (fl : EM (Option Int)) (Q : D → Env → Prop) (E : EX) : D → Env → Prop := fun d e1 => wp fl e1 (fun l e2 => wpo (stepD c d l) Q e2) E
def kSt2 (c : Int) (d : D) (Q : D → Env → Prop) : Option Int → Env → Prop := fun l e2 => wpo (stepD c d l) Q e2
@[simp] theorem wp_stE {c : Int} : wp (stE c fa fl) e Q E = wp fa e (kSt1 c fl Q E) E := by
  unfold stE; rw [wp_bnd]; congr; funext d e1; rw [wp_bnd]; unfold kSt1; congr; funext l e2; rw [wp_lif]
@[simp] theorem kSt1_at {c : Int} {d : D} {e1 : Env} : kSt1 c fl Q E d e1 = wp fl e1 (kSt2 c d Q) E := rfl
@[simp] theorem kSt2_at {c : Int} {d : D} {l : Option Int} {e2 : Env} : kSt2 c d Q l e2 = wpo (stepD c d l) Q e2 := rfl
end
end FD
/-! FD: module tuples, d.update, rests of tuples, sorted items, pops and appends at places, run forward. -/
namespace FD
open PySem L2
section
variable {QS : Flow → Env → Prop} {QX : D → Env → Prop} {QM : M → Env → Prop} {QU : Unit → Env → Prop} {E : EX} {e : Env} {fa : EM D} {fm : EM M} {fv : EM (List M)} {i : Nat} {π : Way} {C f : Str}
@[simp] theorem ktIx_tup {ds : List D} {k : Int} : ktIx (.tuple ds) (.int k) = atI ds k := rfl
@[simp] theorem ktIx_list {ds : List D} {k : Int} : ktIx (.list ds) (.int k) = atI ds k := rfl
/-- self.f += k -/
def kAugF (π : Way) (C f : Str) (i : Nat) (k : Int) (Q : Flow → Env → Prop) (e : Env) : Option M → Prop
  | some (.im (.int n)) => wpo ((pgM i π e).bind (fldK C f (.im (.int (n + k))))) (fun m e => Q .nxt (psM i π m e)) e
  | _ => False
@[simp] theorem wp_augFS {k : Int} : wp (augFS i π C f k) e QS E = kAugF π C f i k QS e (pgM i (π ++ [(C, f)]) e) := by
  unfold wp augFS kAugF
  cases h : pgM i (π ++ [(C, f)]) e with
  | none => rfl
  | some m =>
    cases m with
    | im d =>
      cases d with
      | int n =>
        dsimp only
        cases (pgM i π e).bind (fldK C f (.im (.int (n + k)))) <;> rfl
      | _ => rfl
    | _ => rfl
@[simp] theorem kAugF_at {k n : Int} : kAugF π C f i k QS e (some (.im (.int n))) = wpo ((pgM i π e).bind (fldK C f (.im (.int (n + k))))) (fun m e => QS .nxt (psM i π m e)) e := rfl
/-- d.update(..) -/
def kUpd2 (d : D) (i : Nat) (Q : Flow → Env → Prop) (e : Env) : Option (Option M) → Prop
  | some (some m) => wpo (updDT m d) (fun n e => Q .nxt (e.set i (some n))) e
  | _ => False
def kUpd (i : Nat) (Q : Flow → Env → Prop) : D → Env → Prop := fun d e => kUpd2 d i Q e e[i]?
@[simp] theorem kUpd_at {d : D} {e1 : Env} : kUpd i QS d e1 = kUpd2 d i QS e1 e1[i]? := rfl
@[simp] theorem kUpd2_at {d : D} {m : M} : kUpd2 d i QS e (some (some m)) = wpo (updDT m d) (fun n e => QS .nxt (e.set i (some n))) e := rfl
/-- a, b, *rest = .. -/
@[simp] theorem gStr_at {n : Nat} {u : List D → EM Unit} {ds : List D} : gStr n u (.tuple ds) e = if n ≤ ds.length ∧ ds.length ≤ 16384 then u (ds.take n ++ [.list (ds.drop n)]) e else .no := rfl
/-- sorted(place.items()) -/
def kSrtIt (Q : D → Env → Prop) (e : Env) : Option M → Prop
  | some (.dt kms) => wpo (srtItD kms) Q e
  | _ => False
@[simp] theorem wp_srtItE : wp (srtItE i π) e QX E = kSrtIt QX e (pgM i π e) := by
  unfold wp srtItE
  cases pgM i π e with
  | none => rfl
  | some m =>
    cases m with
    | dt kms =>
      simp only [kSrtIt]
      cases srtItD kms <;> rfl
    | _ => rfl
@[simp] theorem kSrtIt_at {kms : List (List Key × M)} : kSrtIt QX e (some (.dt kms)) = wpo (srtItD kms) QX e := rfl
/-- a dict just made, to own -/
def kDcM (Q : M → Env → Prop) : D → Env → Prop := fun d e => match d with
  | .dict kvs => wpo (dictT kvs) (fun la e => Q (.dt (la.map fun p => (p.1, .im p.2))) e) e
  | _ => False
@[simp] theorem wp_dcM : wp (dcM fa) e QM E = wp fa e (kDcM QM) E := by
  unfold dcM
  rw [wp_bnd]
  congr
  funext d e1
  cases d with
  | dict kvs =>
    simp only [kDcM, wp]
    cases dictT kvs <;> rfl
  | _ => rfl
@[simp] theorem kDcM_at {kds : List (List Key × D)} : kDcM QM (.dict (kds.map fun p => (PyData.tuple (p.1.map keyD), p.2))) e = QM (.dt (kds.map fun p => (p.1, .im p.2))) e := by
  unfold kDcM
  dsimp only
  rw [dictT_of]
  rfl
/-- three names at once -/
def kParN (is : List Nat) (Q : Flow → Env → Prop) : List M → Env → Prop := fun ms e => kSt Q (stoL is ms e)
@[simp] theorem wp_parN {is : List Nat} : wp (parN is fv) e QS E = wp fv e (kParN is QS) E := by
  unfold parN
  rw [wp_bnd]
  congr
  funext ms e1
  unfold kParN wp
  dsimp only
  cases stoL is ms e1 <;> rfl
@[simp] theorem kParN_at {is : List Nat} {ms : List M} : kParN is QS ms e = kSt QS (stoL is ms e) := rfl
end
end FD
/-! FD: xs[lo:hi] = [..], del xs[i], run forward. -/
namespace FD
open PySem L2
section
variable {QS : Flow → Env → Prop} {E : EX} {e : Env} {fm : EM M} {i : Nat} {ga gb : Env → Option D}
def kSlc (i : Nat) (ga gb : Env → Option D) (Q : Flow → Env → Prop) : M → Env → Prop := fun m e => wp (slcS i ga gb (fun e => .ok m e)) e Q (fun _ _ _ => False)
@[simp] theorem wp_slcS : wp (slcS i ga gb fm) e QS E = wp fm e (kSlc i ga gb QS) E := by
  unfold slcS
  rw [wp_bnd]
  congr
  funext m e1
  unfold kSlc slcS wp bnd
  dsimp only
  cases m with
  | ls ns =>
    dsimp only
    cases ga e1 with
    | none => rfl
    | some d =>
      cases d with
      | int lo =>
        dsimp only
        cases gb e1 with
        | none => rfl
        | some d =>
          cases d with
          | int hi =>
            dsimp only
            cases e1[i]? with
            | none => rfl
            | some o =>
              cases o with
              | none => rfl
              | some m =>
                cases m with
                | ls ms =>
                  dsimp only
                  cases imAll ns with
                  | none => rfl
                  | some ds =>
                    cases imAll ms with
                    | none => rfl
                    | some es =>
                      dsimp only
                      by_cases h : ((decide (0 ≤ lo) && (decide (lo ≤ hi) && decide (hi ≤ (es.length : Int)))) && few (es.length + ds.length)) = true
                      · rw [if_pos h]
                      · rw [if_neg h]
                | _ => rfl
          | _ => rfl
      | _ => rfl
  | _ => rfl
def kRepM2 (ds : List D) (Q : M → Env → Prop) : D → Env → Prop := fun k e => match k with
  | .int k => (-(2 ^ 63) ≤ k ∧ k < 2 ^ 63 ∧ ds.length * k.toNat ≤ 1000000) ∧ Q (.ls ((repL ds k).map .im)) e
  | _ => False
def kRepM (fb : EM D) (Q : M → Env → Prop) (E : EX) : List D → Env → Prop := fun ds e => ds.length ≤ 1000000 ∧ wp fb e (kRepM2 ds Q) E
@[simp] theorem wp_repM {fs : EM (List D)} {fb : EM D} {QM : M → Env → Prop} : wp (repM fs fb) e QM E = wp fs e (kRepM fb QM E) E := by
  unfold repM
  rw [wp_bnd]
  congr
  funext ds e1
  unfold kRepM
  by_cases h : ds.length ≤ 1000000
  · rw [if_pos (few_le' h), show (ds.length ≤ 1000000) = True from eq_true h, true_and, wp_bnd]
    congr
    funext k e2
    cases k with
    | int k =>
      unfold kRepM2
      dsimp only
      by_cases c : (decide (-(2 ^ 63) ≤ k) && decide (k < 2 ^ 63) && few (ds.length * k.toNat)) = true
      · rw [if_pos c]
        simp only [Bool.and_eq_true, decide_eq_true_eq, few] at c
        exact propext ⟨fun z => ⟨⟨c.1.1, c.1.2, c.2⟩, z⟩, fun z => z.2⟩
      · rw [if_neg c]
        refine propext ⟨fun z => z.elim, fun z => c ?_⟩
        simp only [Bool.and_eq_true, decide_eq_true_eq, few]
        exact ⟨⟨z.1.1, z.1.2.1⟩, z.1.2.2⟩
    | _ => rfl
  · have : few ds.length = false := by simp [few, h]
    rw [this, show (ds.length ≤ 1000000) = False from eq_false h, false_and]
    rfl
@[simp] theorem kRepM_at {fb : EM D} {QM : M → Env → Prop} {ds : List D} : kRepM fb QM E ds e = (ds.length ≤ 1000000 ∧ wp fb e (kRepM2 ds QM) E) := rfl
@[simp] theorem kRepM2_at {QM : M → Env → Prop} {ds : List D} {k : Int} : kRepM2 ds QM (.int k) e = ((-(2 ^ 63) ≤ k ∧ k < 2 ^ 63 ∧ ds.length * k.toNat ≤ 1000000) ∧ QM (.ls ((repL ds k).map .im)) e) := rfl
end
end FD
/-! FD: list(range(a, b)) to own, run forward. -/
namespace FD
open PySem L2
variable [TabT]
section
variable {QM : M → Env → Prop} {E : EX} {e : Env} {fa fb : EM D}
def kRg2b (c : D) (Q : M → Env → Prop) : D → Env → Prop := fun d e => match rgD .list [c, d] with
  | some (.list ds) => Q (.ls (ds.map .im)) e
  | _ => False
def kRg2 (fb : EM D) (Q : M → Env → Prop) (E : EX) : D → Env → Prop := fun c e => wp fb e (kRg2b c Q) E
@[simp] theorem wp_rg2M : wp (rg2M fa fb) e QM E = wp fa e (kRg2 fb QM E) E := by
  unfold rg2M
  rw [wp_bnd]
  congr
  funext c e1
  unfold kRg2
  rw [wp_bnd]
  congr
  funext d e2
  unfold kRg2b
  cases rgD .list [c, d] with
  | none => rfl
  | some x => cases x <;> rfl
@[simp] theorem kRg2_at {c : D} : kRg2 fb QM E c e = wp fb e (kRg2b c QM) E := rfl
end
end FD
/-! Forward machine: dict(zip(a, b)) of two lists of texts. -/
namespace FD
variable [TabT]
open PySem L2
section
variable {QM : M → FD.Env → Prop} {E : EX} {e : FD.Env} {fs : EM (List D)}
def kDzL (QM : M → FD.Env → Prop) : List D → FD.Env → Prop
  | [.list x, .list y], e => ∃ xs ys, strL x = some xs ∧ strL y = some ys ∧ xs.length ≤ 100 ∧ QM (.dk ((mrgD [] (zipSD xs ys)).map fun p => (p.1, .im p.2))) e
  | _, _ => False
@[simp] theorem kDzL_two {x y : List D} : kDzL QM [.list x, .list y] e = ∃ xs ys, strL x = some xs ∧ strL y = some ys ∧ xs.length ≤ 100 ∧ QM (.dk ((mrgD [] (zipSD xs ys)).map fun p => (p.1, .im p.2))) e := rfl
@[simp] theorem wp_dzLO (h : wp fs e (kDzL QM) E) : wp (dzLO fs) e QM E := by
  unfold dzLO
  rw [wp_bnd]
  refine wp_mono h fun ds e1 q => ?_
  unfold kDzL at q
  split at q
  · obtain ⟨xs, ys, h1, h2, h3, q⟩ := q
    dsimp only
    rw [h1, h2]
    dsimp only
    rw [decide_eq_true h3, if_pos rfl]
    exact q
  · exact q.elim
end
end FD
/-! Forward machine: d.get(a, b), comprehensions of three clauses, repr of a list with dicts. -/
namespace FD
variable [TabT]
open PySem L2
section
variable {Q : D → FD.Env → Prop} {E : EX} {e : FD.Env} {fa : EM D} {fs : EM (List D)}
def getL (kvs : List (D × D)) : List D → Option D
  | [y, z] => (getDD kvs y).map fun o => o.getD z
  | _ => none
def kGetL (kvs : List (D × D)) (Q : D → FD.Env → Prop) : List D → FD.Env → Prop := fun ys e => wpo (getL kvs ys) Q e
@[simp] theorem kGetL_at {kvs : List (D × D)} {y z : D} : kGetL kvs Q [y, z] e = wpo ((getDD kvs y).map fun o => o.getD z) Q e := rfl
def kGet2 (fs : EM (List D)) (Q : D → FD.Env → Prop) (E : EX) : D → FD.Env → Prop := fun d e => match d with
  | .dict kvs => dcB kvs = true ∧ wp fs e (kGetL kvs Q) E
  | _ => False
@[simp] theorem wp_get2E : wp (get2E fa fs) e Q E = wp fa e (kGet2 fs Q E) E := by
  unfold get2E
  rw [wp_bnd]
  congr
  funext d e1
  cases d with
  | dict kvs =>
    show wp (fun e => if dcB kvs = true then bnd fs (fun ys => lif (match ys with
      | [y, z] => (getDD kvs y).map fun o => o.getD z
      | _ => none)) e else .no) e1 Q E = (dcB kvs = true ∧ wp fs e1 (kGetL kvs Q) E)
    by_cases hd : dcB kvs = true
    · have e0 : ∀ f : EM D, wp (fun e => if dcB kvs = true then f e else .no) e1 Q E = wp f e1 Q E := fun f => by
        unfold wp
        simp only [hd, if_true]
      have e2 : wp (bnd fs fun ys => lif (match ys with
        | [y, z] => (getDD kvs y).map fun o => o.getD z
        | _ => none)) e1 Q E = wp fs e1 (kGetL kvs Q) E := by
        rw [wp_bnd]
        congr
        funext ys e2
        rw [wp_lif]
        unfold kGetL getL
        rfl
      rw [e0, e2]
      exact propext ⟨fun h => ⟨hd, h⟩, fun h => h.2⟩
    · have e0 : ∀ f : EM D, wp (fun e => if dcB kvs = true then f e else .no) e1 Q E = False := fun f => by
        unfold wp
        simp only [hd, Bool.false_eq_true, if_false]
      rw [e0]
      exact (eq_false fun z => hd z.1).symm
  | _ => rfl
def kRepG (Q : D → FD.Env → Prop) : List D → FD.Env → Prop := fun ds e => wpo (reprG ds) Q e
@[simp] theorem wp_reprLE : wp (reprLE fs) e Q E = wp fs e (kRepG Q) E := by
  unfold reprLE
  rw [wp_bnd]
  congr
  funext ds e1
  rw [wp_lif]
  rfl
end
@[simp] theorem dcB_dK {kds : List (Key × D)} : dcB (kds.map fun p => (keyD p.1, p.2)) = true := by unfold dcB; rw [dictK_of]; rfl
theorem wp_of_eq {α : Type} {g : EM α} {e e1 : FD.Env} {a : α} {Q : α → FD.Env → Prop} {E : EX} (h : g e = .ok a e1) (q : Q a e1) : wp g e Q E := by
  unfold wp
  rw [h]
  exact q
end FD
namespace FDL
open PySem L2 FD
def gis_whole : EM FD.Flow := (retS (andV (un (isiD "int") (var 0)) (andV (notV (un (isiD "bool") (var 0))) (chn leI leI (var 1) (var 0) (var 2)))))
def fis_whole : List M → FOut := defF 3 3 [] gis_whole
def gis_letter : EM FD.Flow := (retS (andV (un (isiD "str") (var 0)) (andV (bin eqA (cbE lenD (consA (var 0) nilA)) (ret (.int 1))) (bin inA (var 0) (ret (.str "abcdefghijklmnopqrstuvwxyz"))))))
def fis_letter : List M → FOut := defF 1 1 [] gis_letter
def gis_side : EM FD.Flow := (retS (orV (callD fis_letter (arD (var 0) arN)) (andV (un (isiD "str") (var 0)) (bin inA (var 0) (tupE (consA (var 1) (consA (ret (.str "*")) nilA)))))))
def fis_side : List M → FOut := defF 2 2 [] gis_side
def grule_looks : EM FD.Flow := (seqS (setS 1 (lstE (consA (callD fis_side (arD (bin ixA (var 0) (ret (.int 0))) (arD (ret (.str "<")) arN))) (consA (callD fis_letter (arD (bin ixA (var 0) (ret (.int 1))) arN)) (consA (callD fis_side (arD (bin ixA (var 0) (ret (.int 2))) (arD (ret (.str ">")) arN))) nilA))))) (retS (bin addD (var 1) (lstE (consA (callD fis_whole (kwA 1 1 [.inl 0, .inr 0, .inl 1] [.int 0] (arD (bin ixA (var 0) (ret (.int 3))) arN) (arD (ret (.int 999)) arN))) nilA)))))
def frule_looks : List M → FOut := defF 1 2 [] grule_looks
def gneed_book : EM FD.Flow := (seqS (ifS (orT (notT (tst (un (isiD "tuple") (var 0)))) (tst (bin gtI (cbE lenD (consA (var 0) nilA)) (ret (.int 80))))) (fun _ => .no) (ret .nxt)) (forS (itA enA (consA (var 0) nilA)) (gT 2 (gsCons (gN 1) (gsCons (gN 2) gsNil))) (ifS (orT (notT (tst (un (isiD "tuple") (var 2)))) (orT (tst (bin neD (cbE lenD (consA (var 2) nilA)) (ret (.int 4)))) (tst (bin inA (ret (.bool false)) (callD frule_looks (arD (var 2) arN)))))) (fun _ => .no) (ret .nxt))))
def fneed_book : List M → FOut := defF 1 3 [] gneed_book
def gneed_case : EM FD.Flow := (seqS (ifS (orT (notT (tst (un (isiD "tuple") (var 0)))) (tst (bin neD (cbE lenD (consA (var 0) nilA)) (ret (.int 3))))) (fun _ => .no) (ret .nxt)) (seqS (asgS (var 0) (gT 3 (gsCons (gN 1) (gsCons (gN 2) (gsCons (gN 3) gsNil))))) (seqS (ifS (orT (notT (tst (callD fis_side (arD (var 1) (arD (ret (.str "<")) arN))))) (orT (notT (tst (callD fis_letter (arD (var 2) arN)))) (notT (tst (callD fis_side (arD (var 3) (arD (ret (.str ">")) arN))))))) (fun _ => .no) (ret .nxt)) (ifS (orT (tst (bin eqA (var 1) (ret (.str "*")))) (tst (bin eqA (var 3) (ret (.str "*"))))) (fun _ => .no) (ret .nxt)))))
def fneed_case : List M → FOut := defF 1 4 [] gneed_case
def gfits_case : EM FD.Flow := (retS (andV (bin eqA (bin ixA (var 0) (ret (.int 1))) (bin ixA (var 1) (ret (.int 1)))) (andV (bin inA (bin ixA (var 0) (ret (.int 0))) (tupE (consA (bin ixA (var 1) (ret (.int 0))) (consA (ret (.str "*")) nilA)))) (bin inA (bin ixA (var 0) (ret (.int 2))) (tupE (consA (bin ixA (var 1) (ret (.int 2))) (consA (ret (.str "*")) nilA)))))))
def ffits_case : List M → FOut := defF 2 2 [] gfits_case
def gprice_there : EM FD.Flow := (seqS (setS 2 (compE [3] (itE itX (var 0)) (gN 3) (tst (callD ffits_case (arD (var 3) (arD (var 1) arN)))) (bin ixA (var 3) (ret (.int 3))))) (retS (ifE (tst (bin neD (var 2) (lstE nilA))) (cbE minD (consA (var 2) nilA)) (ret .none))))
def fprice_there : List M → FOut := defF 2 4 [] gprice_there
def gprice : EM FD.Flow := (seqS (exprS (callD fneed_book (arD (var 0) arN))) (seqS (exprS (callD fneed_case (arD (var 1) arN))) (retS (callD fprice_there (arD (var 0) (arD (var 1) arN))))))
def fprice : List M → FOut := defF 2 2 [] gprice
def gsigns_for : EM FD.Flow := (retS (ifE (tst (bin eqA (var 0) (ret (.str "*")))) (bin addD (tupE (consA (var 1) nilA)) (cbE tupleD (consA (ret (.str "abcdefghijklmnopqrstuvwxyz")) nilA))) (tupE (consA (var 0) nilA))))
def fsigns_for : List M → FOut := defF 2 2 [] gsigns_for
def grule_cases : EM FD.Flow := (seqS (asgS (tupE (consA (callD fsigns_for (arD (bin ixA (var 0) (ret (.int 0))) (arD (ret (.str "<")) arN))) (consA (callD fsigns_for (arD (bin ixA (var 0) (ret (.int 2))) (arD (ret (.str ">")) arN))) nilA))) (gT 2 (gsCons (gN 1) (gsCons (gN 2) gsNil)))) (retS (compE2 [3, 4] [4] (itE itX (var 1)) (gN 3) (ret true) (itE itX (var 2)) (gN 4) (ret true) (tupE (consA (var 3) (consA (bin ixA (var 0) (ret (.int 1))) (consA (var 4) nilA)))))))
def frule_cases : List M → FOut := defF 1 5 [] grule_cases
def gprice_table : EM FD.Flow := (seqS (setM 1 dtM) (seqS (forS (itE itX (var 0)) (gN 2) (forS (itE itX (callD frule_cases (arD (var 2) arN))) (gN 3) (storeS 1 (var 3) (cbE minD (consA (bin ixA (var 2) (ret (.int 3))) (consA (pkGet 1 (consA (var 3) (consA (bin ixA (var 2) (ret (.int 3))) nilA))) nilA)))))) (retS (var 1))))
def fprice_table : List M → FOut := defF 1 4 [] gprice_table
def ghow_many : EM FD.Flow := (seqS (exprS (callD fneed_book (arD (var 0) arN))) (retS (cbE lenD (consA (callD fprice_table (arD (var 0) arN)) nilA))))
def fhow_many : List M → FOut := defF 1 1 [] ghow_many
def gtwo_tables : EM FD.Flow := (seqS (exprS (callD fneed_book (arD (var 0) arN))) (seqS (exprS (callD fneed_book (arD (var 1) arN))) (retS (tupE (consA (callD fprice_table (arD (var 0) arN)) (consA (callD fprice_table (arD (var 1) arN)) nilA))))))
def ftwo_tables : List M → FOut := defF 2 2 [] gtwo_tables
def galike : EM FD.Flow := (seqS (asgS (callD ftwo_tables (arD (var 0) (arD (var 1) arN))) (gT 2 (gsCons (gN 2) (gsCons (gN 3) gsNil)))) (retS (bin eqA (cbE sortedDTSD (consA (var 2) nilA)) (cbE sortedDTSD (consA (var 3) nilA)))))
def falike : List M → FOut := defF 2 4 [] galike
def gsame : EM FD.Flow := (seqS (asgS (callD ftwo_tables (arD (var 0) (arD (var 1) arN))) (gT 2 (gsCons (gN 2) (gsCons (gN 3) gsNil)))) (retS (bin eqA (var 2) (var 3))))
def fsame : List M → FOut := defF 2 4 [] gsame
def gis_within : EM FD.Flow := (seqS (asgS (callD ftwo_tables (arD (var 0) (arD (var 1) arN))) (gT 2 (gsCons (gN 2) (gsCons (gN 3) gsNil)))) (retS (cbE allD (consA (compE [4] (itE itX (var 2)) (gN 4) (ret true) (bin inA (var 4) (var 3))) nilA))))
def fis_within : List M → FOut := defF 2 5 [] gis_within
def gparting : EM FD.Flow := (seqS (asgS (callD ftwo_tables (arD (var 0) (arD (var 1) arN))) (gT 2 (gsCons (gN 3) (gsCons (gN 4) gsNil)))) (seqS (setS 2 (bin addD (compE [5] (itE itX (var 3)) (gN 5) (tst (bin ninA (var 5) (var 4))) (tupE (consA (var 5) (consA (ret (.int 0)) nilA)))) (compE [5] (itE itX (var 4)) (gN 5) (tst (bin ninA (var 5) (var 3))) (tupE (consA (var 5) (consA (ret (.int 1)) nilA)))))) (retS (ifE (tst (bin neD (var 2) (lstE nilA))) (cbE minW (consA (var 2) nilA)) (ret .none)))))
def fparting : List M → FOut := defF 2 6 [] gparting
def gunlike_price : EM FD.Flow := (seqS (asgS (callD ftwo_tables (arD (var 0) (arD (var 1) arN))) (gT 2 (gsCons (gN 3) (gsCons (gN 4) gsNil)))) (seqS (setS 2 (compE [5] (itE itX (var 3)) (gN 5) (andT (tst (bin inA (var 5) (var 4))) (tst (bin neD (bin ixA (var 3) (var 5)) (bin ixA (var 4) (var 5))))) (var 5))) (retS (ifE (tst (bin neD (var 2) (lstE nilA))) (cbE minW (consA (var 2) nilA)) (ret .none)))))
def funlike_price : List M → FOut := defF 2 6 [] gunlike_price
def gis_needless : EM FD.Flow := (seqS (setS 2 (bin ixA (var 0) (var 1))) (seqS (setS 3 (compE [4] (itE itX (bin addD (slE (var 0) (ret none) (intE (var 1))) (slE (var 0) (intE (bin addD (var 1) (ret (.int 1)))) (ret none)))) (gN 4) (andT (tst (bin eqA (bin ixA (var 4) (ret (.int 1))) (bin ixA (var 2) (ret (.int 1))))) (tst (bin leI (bin ixA (var 4) (ret (.int 3))) (bin ixA (var 2) (ret (.int 3)))))) (var 4))) (seqS (ifS (tst (cbE anyD (consA (compE [4] (itE itX (var 3)) (gN 4) (ret true) (andV (bin inA (bin ixA (var 4) (ret (.int 0))) (tupE (consA (bin ixA (var 2) (ret (.int 0))) (consA (ret (.str "*")) nilA)))) (bin inA (bin ixA (var 4) (ret (.int 2))) (tupE (consA (bin ixA (var 2) (ret (.int 2))) (consA (ret (.str "*")) nilA)))))) nilA))) (retS (ret (.bool true))) (ret .nxt)) (retS (cbE allD (consA (compE [5] (itE itX (callD frule_cases (arD (var 2) arN))) (gN 5) (ret true) (cbE anyD (consA (compE [4] (itE itX (var 3)) (gN 4) (ret true) (callD ffits_case (arD (var 4) (arD (var 5) arN)))) nilA))) nilA))))))
def fis_needless : List M → FOut := defF 2 6 [] gis_needless
def gneedless : EM FD.Flow := (seqS (exprS (callD fneed_book (arD (var 0) arN))) (retS (cbE tupleD (consA (compE [1] (itA rng1 (consA (cbE lenD (consA (var 0) nilA)) nilA)) (gN 1) (tst (callD fis_needless (arD (var 0) (arD (var 1) arN)))) (var 1)) nilA))))
def fneedless : List M → FOut := defF 1 2 [] gneedless
def g_law_mixed : EM FD.Flow := (seqS (setS 0 (bin modD (bin mulD (bin addD (bin addD (bin modD (var 0) (ret (.int 2147483647))) (bin mulD (bin mulD (ret (.int 7919)) (var 1)) (var 1))) (bin mulD (ret (.int 31)) (var 1))) (ret (.int 48271))) (ret (.int 2147483647)))) (retS (bin modD (bin mulD (var 0) (bin addD (ret (.int 69621)) (bin mulD (ret (.int 2)) (var 1)))) (ret (.int 2147483629)))))
def f_law_mixed : List M → FOut := defF 2 2 [] g_law_mixed
def g_law_stream : EM FD.Flow := (retM (lstM (consA (ifE (tst (bin geI (var 0) (bin powD (ret (.int 10)) (ret (.int 18))))) (var 0) (ret (.int 0))) (consA (ret (.int 0)) (consA (callD f_law_mixed (arD (var 0) (arD (var 1) arN))) nilA)))))
def f_law_stream : List M → FOut := defF 2 2 [] g_law_stream
def g_law_take : EM FD.Flow := (seqS (storeS 0 (ret (.int 1)) (bin addD (pkIxA 0 (ret (.int 1))) (ret (.int 1)))) (seqS (ifS (tst (bin eqA (pkIxA 0 (ret (.int 0))) (ret (.int 0)))) (retS (bin modD (callD f_law_mixed (arD (callD f_law_mixed (arD (pkIxA 0 (ret (.int 2))) (arD (pkIxA 0 (ret (.int 1))) arN))) (arD (ret (.int 7)) arN))) (var 1))) (ret .nxt)) (seqS (setS 2 (bin modD (pkIxA 0 (ret (.int 0))) (var 1))) (seqS (storeS 0 (ret (.int 0)) (bin fdvD (pkIxA 0 (ret (.int 0))) (var 1))) (retS (var 2))))))
def f_law_take : List M → FOut := defF 2 3 [0] g_law_take
def g_law_signs : EM FD.Flow := (seqS (asgS (tupE (consA (callD f_law_take (arB 0 (arD (ret (.int 26)) arN))) (consA (bin addD (ret (.int 1)) (bin mulD (ret (.int 2)) (callD f_law_take (arB 0 (arD (ret (.int 6)) arN))))) nilA))) (gT 2 (gsCons (gN 2) (gsCons (gN 3) gsNil)))) (retS (compE [4] (itA rng1 (consA (var 1) nilA)) (gN 4) (ret true) (bin ixA (ret (.str "abcdefghijklmnopqrstuvwxyz")) (bin modD (bin addD (var 2) (bin mulD (var 3) (var 4))) (ret (.int 26)))))))
def f_law_signs : List M → FOut := defF 2 5 [0] g_law_signs
def g_law_side : EM FD.Flow := (retS (bin ixA (bin addD (var 1) (lstE (consA (var 2) (consA (ret (.str "*")) nilA)))) (callD f_law_take (arB 0 (arD (bin addD (cbE lenD (consA (var 1) nilA)) (ret (.int 2))) arN)))))
def f_law_side : List M → FOut := defF 3 3 [0] g_law_side
def g_law_rule : EM FD.Flow := (seqS (parS (consA (callD f_law_side (arB 0 (arD (var 1) (arD (ret (.str "<")) arN)))) (consA (callD f_law_side (arB 0 (arD (var 1) (arD (ret (.str ">")) arN)))) nilA)) (gsCons (gN 2) (gsCons (gN 3) gsNil))) (seqS (parS (consA (bin ixA (var 1) (callD f_law_take (arB 0 (arD (cbE lenD (consA (var 1) nilA)) arN)))) (consA (callD f_law_take (arB 0 (arD (ret (.int 4)) arN))) nilA)) (gsCons (gN 4) (gsCons (gN 5) gsNil))) (retS (tupE (consA (var 2) (consA (var 4) (consA (var 3) (consA (ifE (tst (bin eqA (var 5) (ret (.int 3)))) (callD f_law_take (arB 0 (arD (ret (.int 1000)) arN))) (var 5)) nilA))))))))
def f_law_rule : List M → FOut := defF 2 6 [0] g_law_rule
def g_law_rules : EM FD.Flow := (seqS (setM 3 (lstM nilA)) (seqS (forS (itA rng1 (consA (var 2) nilA)) (gN 4) (seqS (setS 5 (callD f_law_rule (arB 0 (arD (var 1) arN)))) (seqS (ifS (andT (tst (pkL 3 neD (lstE nilA))) (tst (bin eqA (callD f_law_take (arB 0 (arD (ret (.int 6)) arN))) (ret (.int 0))))) (seqS (setS 6 (pkIxA 3 (callD f_law_take (arB 0 (arD (pkLen 3) arN))))) (setS 5 (ifE (tst (bin eqA (callD f_law_take (arB 0 (arD (ret (.int 2)) arN))) (ret (.int 0)))) (var 6) (bin addD (slE (var 6) (ret none) (intE (ret (.int 3)))) (slE (var 5) (intE (ret (.int 3))) (ret none)))))) (ret .nxt)) (appS 3 (var 5))))) (retS (cbE tupleD (consA (var 3) nilA)))))
def f_law_rules : List M → FOut := defF 3 7 [0] g_law_rules
def g_law_star : EM FD.Flow := (seqS (parS (consA (bin ixA (var 1) (callD f_law_take (arB 0 (arD (cbE lenD (consA (var 1) nilA)) arN)))) (consA (callD f_law_take (arB 0 (arD (ret (.int 4)) arN))) (consA (bin mulD (ret (.int 2)) (callD f_law_take (arB 0 (arD (ret (.int 2)) arN)))) nilA))) (gsCons (gN 4) (gsCons (gN 5) (gsCons (gN 6) gsNil)))) (seqS (setS 2 (bin ixA (ret (.str "<>")) (bin fdvD (var 6) (ret (.int 2))))) (seqS (setS 3 (bin ixA (bin addD (var 1) (lstE (consA (bin ixA (ret (.str "><")) (bin fdvD (var 6) (ret (.int 2)))) nilA))) (callD f_law_take (arB 0 (arD (bin addD (cbE lenD (consA (var 1) nilA)) (ret (.int 1))) arN))))) (seqS (parMM 7 8 (lsX (bin addD (var 2) (ret (.str "abcdefghijklmnopqrstuvwxyz")))) (lstM nilA)) (seqS (whileS 1000 (tst (pkL 7 neD (lstE nilA))) (seqS (setS 9 (popA 7 (callD f_law_take (arB 0 (arD (pkLen 7) arN))))) (appS 8 (ifE (tst (bin eqA (var 6) (ret (.int 0)))) (tupE (consA (var 9) (consA (var 4) (consA (var 3) (consA (var 5) nilA))))) (tupE (consA (var 3) (consA (var 4) (consA (var 9) (consA (var 5) nilA))))))))) (retS (tupE (consA (ifE (tst (bin eqA (var 6) (ret (.int 0)))) (tupE (consA (ret (.str "*")) (consA (var 4) (consA (var 3) (consA (var 5) nilA))))) (tupE (consA (var 3) (consA (var 4) (consA (ret (.str "*")) (consA (var 5) nilA)))))) (consA (cbE tupleD (consA (var 8) nilA)) nilA)))))))))
def f_law_star : List M → FOut := defF 2 10 [0] g_law_star
def g_law_left_out_right : EM FD.Flow := (seqS (parS (consA (slE (var 2) (ret none) (intE (ret (.int 3)))) (consA (callD fprice (arD (var 1) (arD (slE (var 2) (ret none) (intE (ret (.int 3)))) arN))) nilA)) (gsCons (gN 5) (gsCons (gN 6) gsNil))) (seqS (setS 3 (lstE (consA (callD fparting (arD (var 0) (arD (var 1) arN))) (consA (callD fparting (arD (var 1) (arD (var 0) arN))) (consA (callD funlike_price (arD (var 0) (arD (var 1) arN))) nilA))))) (seqS (setS 4 (lstE (consA (callD falike (arD (var 0) (arD (var 1) arN))) (consA (callD fsame (arD (var 0) (arD (var 1) arN))) (consA (callD fis_within (arD (var 0) (arD (var 1) arN))) (consA (callD fis_within (arD (var 1) (arD (var 0) arN))) nilA)))))) (seqS (ifS (tst (bin neD (callD fprice (arD (var 0) (arD (var 5) arN))) (ifE (tst (bin isD (var 6) (ret .none))) (bin ixA (var 2) (ret (.int 3))) (cbE minD (consA (var 6) (consA (bin ixA (var 2) (ret (.int 3))) nilA)))))) (retS (ret (.bool false))) (ret .nxt)) (seqS (ifS (tst (bin isD (var 6) (ret .none))) (retS (bin eqA (cbE reprD (consA (bin addD (var 3) (var 4)) nilA)) (cbE reprD (consA (lstE (consA (tupE (consA (var 5) (consA (ret (.int 0)) nilA))) (consA (tupE (consA (var 5) (consA (ret (.int 1)) nilA))) (consA (ret .none) (consA (ret (.bool false)) (consA (ret (.bool false)) (consA (ret (.bool false)) (consA (ret (.bool true)) nilA)))))))) nilA)))) (ret .nxt)) (seqS (ifS (tst (bin gtI (var 6) (bin ixA (var 2) (ret (.int 3))))) (retS (bin eqA (cbE reprD (consA (bin addD (var 3) (var 4)) nilA)) (cbE reprD (consA (lstE (consA (ret .none) (consA (ret .none) (consA (var 5) (consA (ret (.bool true)) (consA (ret (.bool false)) (consA (ret (.bool true)) (consA (ret (.bool true)) nilA)))))))) nilA)))) (ret .nxt)) (retS (bin eqA (cbE reprD (consA (bin addD (var 3) (var 4)) nilA)) (cbE reprD (consA (lstE (consA (ret .none) (consA (ret .none) (consA (ret .none) (consA (ret (.bool true)) (consA (ret (.bool true)) (consA (ret (.bool true)) (consA (ret (.bool true)) nilA)))))))) nilA))))))))))
def f_law_left_out_right : List M → FOut := defF 3 7 [] g_law_left_out_right
def glaw : EM FD.Flow := (seqS (forS (itA enA (consA (slE (bin addD (var 0) (lstE (consA (ret (.int 0)) nilA))) (ret none) (intE (ret (.int 9)))) nilA)) (gT 2 (gsCons (gN 1) (gsCons (gN 2) gsNil))) (seqS (setM 3 (callM f_law_stream (arD (var 2) (arD (var 1) arN)))) (seqS (setS 4 (callD f_law_signs (arB 3 (arD (bin addD (ret (.int 1)) (callD f_law_take (arB 3 (arD (ret (.int 4)) arN)))) arN)))) (seqS (setS 5 (callD f_law_rules (arB 3 (arD (var 4) (arD (callD f_law_take (arB 3 (arD (ret (.int 9)) arN))) arN))))) (seqS (asgS (callD f_law_star (arB 3 (arD (var 4) arN))) (gT 2 (gsCons (gN 9) (gsCons (gN 10) gsNil)))) (seqS (parS (consA (callD f_law_take (arB 3 (arD (bin addD (cbE lenD (consA (var 5) nilA)) (ret (.int 1))) arN))) (consA (callD f_law_take (arB 3 (arD (ret (.int 27)) arN))) nilA)) (gsCons (gN 11) (gsCons (gN 12) gsNil))) (seqS (setS 6 (bin addD (bin addD (slE (var 5) (ret none) (intE (var 11))) (tupE (consA (var 9) nilA))) (slE (var 5) (intE (var 11)) (ret none)))) (seqS (setS 7 (bin addD (bin addD (slE (var 5) (ret none) (intE (var 11))) (var 10)) (slE (var 5) (intE (var 11)) (ret none)))) (seqS (ifS (orT (tst (bin isnD (callD fsame (arD (var 6) (arD (var 7) arN))) (ret (.bool true)))) (tst (bin neD (callD fhow_many (arD (var 6) arN)) (callD fhow_many (arD (var 7) arN))))) (retS (ret (.bool false))) (ret .nxt)) (seqS (parS (consA (bin addD (slE (var 7) (ret none) (intE (bin addD (var 11) (var 12)))) (slE (var 7) (intE (bin addD (bin addD (var 11) (var 12)) (ret (.int 1)))) (ret none))) (consA (bin ixA (var 10) (var 12)) nilA)) (gsCons (gN 13) (gsCons (gN 14) gsNil))) (seqS (ifS (notT (tst (callD f_law_left_out_right (arD (var 7) (arD (var 13) (arD (var 14) arN)))))) (retS (ret (.bool false))) (ret .nxt)) (seqS (ifS (tst (bin neD (bin inA (bin addD (var 11) (var 12)) (callD fneedless (arD (var 7) arN))) (callD fsame (arD (var 7) (arD (var 13) arN))))) (retS (ret (.bool false))) (ret .nxt)) (seqS (setS 8 (bin subD (callD fhow_many (arD (var 7) arN)) (cbE intB (consA (bin isD (callD fprice (arD (var 13) (arD (slE (var 14) (ret none) (intE (ret (.int 3)))) arN))) (ret .none)) nilA)))) (ifS (orT (tst (bin neD (callD fhow_many (arD (var 13) arN)) (var 8))) (tst (bin isnD (callD fsame (arD (bin addD (var 13) (tupE (consA (var 9) nilA))) (arD (bin addD (var 6) (var 10)) arN))) (ret (.bool true))))) (retS (ret (.bool false))) (ret .nxt))))))))))))))) (retS (ret (.bool true))))
def flaw : List M → FOut := defF 1 15 [] glaw
end FDL
namespace FDL
open PySem L2 FD
def isLet (c : Nat) : Bool := decide (97 ≤ c) && decide (c ≤ 122)
def codes : List Nat := 42 :: 60 :: 62 :: (List.range 26).map (· + 97)
theorem sub_let : ∀ c ∈ codes, subS (sg c) "abcdefghijklmnopqrstuvwxyz" = isLet c := by decide +kernel
@[simp] theorem inA_strs {x y : Str} : inA (.str x) (.str y) = some (.bool (subS x y)) := rfl
theorem is_letter_at {c : Nat} (h : c ∈ codes) : fis_letter [.im (.str (sg c))] = .ok (.im (.bool (isLet c))) [.im (.str (sg c))] := by
  simp [FD.ret, FD.lif, FD.bnd, FD.var, FD.bin, FD.un, FD.tst, FD.andT, FD.orT, FD.notT, FD.andV, FD.orV, FD.notV, FD.ifE, FD.nilA, FD.consA, FD.tupE, FD.lstE, FD.seqS, FD.exprS, FD.retS, FD.retM, FD.ifS, FD.stoM, FD.setS, FD.setM, FD.gN, FD.gsNil, FD.gsCons, FD.gT, FD.goS, FD.asgS, FD.parS, FD.augS, FD.itE, FD.itA, FD.cbE, FD.slE, FD.intE, FD.arN, FD.arD, FD.arB, FD.callD, FD.callM, FD.slotsOf, FD.argM, FD.putB, FD.isIm, FD.endF, FD.backs, FD.args0, FD.defF, FD.chn, FD.lstM, FD.dtM, FD.dkM, FD.imM, FD.frzE, FD.has, FD.chk, FD.pk, FD.pkLen, FD.peekD, FD.pkL, FD.pkR, fis_letter, gis_letter, sub_let c h]
theorem is_side_at {c e : Nat} (h : c ∈ codes) : fis_side [.im (.str (sg c)), .im (.str (sg e))] = .ok (.im (.bool (isLet c || (e == c || 42 == c)))) [.im (.str (sg c)), .im (.str (sg e))] := by
  have hl := is_letter_at h
  cases q : isLet c <;> simp [FD.ret, FD.lif, FD.bnd, FD.var, FD.bin, FD.un, FD.tst, FD.andT, FD.orT, FD.notT, FD.andV, FD.orV, FD.notV, FD.ifE, FD.nilA, FD.consA, FD.tupE, FD.lstE, FD.seqS, FD.exprS, FD.retS, FD.retM, FD.ifS, FD.stoM, FD.setS, FD.setM, FD.gN, FD.gsNil, FD.gsCons, FD.gT, FD.goS, FD.asgS, FD.parS, FD.augS, FD.itE, FD.itA, FD.cbE, FD.slE, FD.intE, FD.arN, FD.arD, FD.arB, FD.callD, FD.callM, FD.slotsOf, FD.argM, FD.putB, FD.isIm, FD.endF, FD.backs, FD.args0, FD.defF, FD.chn, FD.lstM, FD.dtM, FD.dkM, FD.imM, FD.frzE, FD.has, FD.chk, FD.pk, FD.pkLen, FD.peekD, FD.pkL, FD.pkR, fis_side, gis_side, hl, q, star_sg]
theorem is_whole_at {i lo hi : Int} : fis_whole [.im (.int i), .im (.int lo), .im (.int hi)] = .ok (.im (.bool (decide (lo ≤ i) && decide (i ≤ hi)))) [.im (.int i), .im (.int lo), .im (.int hi)] := by
  by_cases h : lo ≤ i <;> simp [FD.ret, FD.lif, FD.bnd, FD.var, FD.bin, FD.un, FD.tst, FD.andT, FD.orT, FD.notT, FD.andV, FD.orV, FD.notV, FD.ifE, FD.nilA, FD.consA, FD.tupE, FD.lstE, FD.seqS, FD.exprS, FD.retS, FD.retM, FD.ifS, FD.stoM, FD.setS, FD.setM, FD.gN, FD.gsNil, FD.gsCons, FD.gT, FD.goS, FD.asgS, FD.parS, FD.augS, FD.itE, FD.itA, FD.cbE, FD.slE, FD.intE, FD.arN, FD.arD, FD.arB, FD.callD, FD.callM, FD.slotsOf, FD.argM, FD.putB, FD.isIm, FD.endF, FD.backs, FD.args0, FD.defF, FD.chn, FD.lstM, FD.dtM, FD.dkM, FD.imM, FD.frzE, FD.has, FD.chk, FD.pk, FD.pkLen, FD.peekD, FD.pkL, FD.pkR, fis_whole, gis_whole, h]
structure Ru where
  a : Nat
  l : Nat
  b : Nat
  p : Int
deriving DecidableEq
def ruD (r : Ru) : D := .tuple [.str (sg r.a), .str (sg r.l), .str (sg r.b), .int r.p]
def okA (c : Nat) : Bool := isLet c || (60 == c || 42 == c)
def okB (c : Nat) : Bool := isLet c || (62 == c || 42 == c)
def okR (r : Ru) : Bool := okA r.a && isLet r.l && okB r.b && (decide (0 ≤ r.p) && decide (r.p ≤ 999))
theorem codes_let {c : Nat} (h : isLet c = true) : c ∈ codes := by
  simp only [isLet, Bool.and_eq_true, decide_eq_true_eq] at h
  refine List.mem_cons_of_mem _ (List.mem_cons_of_mem _ (List.mem_cons_of_mem _ (List.mem_map.mpr ⟨c - 97, List.mem_range.mpr (by omega), by omega⟩)))
theorem codes_A {c : Nat} (h : okA c = true) : c ∈ codes := by
  simp only [okA, Bool.or_eq_true, beq_iff_eq] at h
  rcases h with h | h | h
  · exact codes_let h
  · subst h; decide
  · subst h; decide
theorem codes_B {c : Nat} (h : okB c = true) : c ∈ codes := by
  simp only [okB, Bool.or_eq_true, beq_iff_eq] at h
  rcases h with h | h | h
  · exact codes_let h
  · subst h; decide
  · subst h; decide
theorem rule_looks_at {r : Ru} (h : okR r = true) : frule_looks [.im (ruD r)] = .ok (.im (.list [.bool true, .bool true, .bool true, .bool true])) [.im (ruD r)] := by
  simp only [okR, Bool.and_eq_true] at h
  obtain ⟨⟨⟨h1, h2⟩, h3⟩, h4⟩ := h
  have e1 := is_side_at (e := 60) (codes_A h1)
  have e2 := is_letter_at (codes_let h2)
  have e3 := is_side_at (e := 62) (codes_B h3)
  have e4 := is_whole_at (i := r.p) (lo := 0) (hi := 999)
  simp only [okA, okB] at h1 h3
  rw [h1] at e1
  rw [h2] at e2
  rw [h3] at e3
  rw [show (decide (0 ≤ r.p) && decide (r.p ≤ 999)) = true by rw [h4.1, h4.2]; rfl] at e4
  simp [FD.ret, FD.lif, FD.bnd, FD.var, FD.bin, FD.un, FD.tst, FD.andT, FD.orT, FD.notT, FD.andV, FD.orV, FD.notV, FD.ifE, FD.nilA, FD.consA, FD.tupE, FD.lstE, FD.seqS, FD.exprS, FD.retS, FD.retM, FD.ifS, FD.stoM, FD.setS, FD.setM, FD.gN, FD.gsNil, FD.gsCons, FD.gT, FD.goS, FD.asgS, FD.parS, FD.augS, FD.itE, FD.itA, FD.cbE, FD.slE, FD.intE, FD.arN, FD.arD, FD.arB, FD.callD, FD.callM, FD.slotsOf, FD.argM, FD.putB, FD.isIm, FD.endF, FD.backs, FD.args0, FD.defF, FD.chn, FD.lstM, FD.dtM, FD.dkM, FD.imM, FD.frzE, FD.has, FD.chk, FD.pk, FD.pkLen, FD.peekD, FD.pkL, FD.pkR, frule_looks, grule_looks, ruD, first_sg, last_sg, e1, e2, e3, kwA, pick, e4]
def boD (rs : List Ru) : D := .tuple (rs.map ruD)
def okBo (rs : List Ru) : Prop := (∀ r ∈ rs, okR r = true) ∧ rs.length ≤ 80
theorem false_in4 : inA (.bool false) (.list [.bool true, .bool true, .bool true, .bool true]) = some (.bool false) := rfl
theorem need_book_at {rs : List Ru} (h : okBo rs) : fneed_book [.im (boD rs)] = .ok (.im .none) [.im (boD rs)] := by
  obtain ⟨hr, hl⟩ := h
  have key : ∃ e', loopS (gT 2 (gsCons (gN 1) (gsCons (gN 2) gsNil))) (ifS (orT (notT (tst (un (isiD "tuple") (var 2)))) (orT (tst (bin neD (cbE lenD (consA (var 2) nilA)) (ret (.int 4)))) (tst (bin inA (ret (.bool false)) (callD frule_looks (arD (var 2) arN)))))) (fun _ => .no) (ret .nxt)) (enumDs (rs.map ruD)) [some (.im (boD rs)), none, none] = .ok .nxt e' ∧ ∃ x y, e' = [some (.im (boD rs)), x, y] := by
    refine loopS_inv (fun _ e => ∃ x y, e = [some (.im (boD rs)), x, y]) ⟨_, _, rfl⟩ ?_
    rintro d r e ⟨l, hl⟩ ⟨x, y, rfl⟩
    obtain ⟨i, ru, hru, rfl⟩ : ∃ (i : Nat) (ru : Ru), ru ∈ rs ∧ d = .tuple [.int (i : Nat), ruD ru] := by
      have hm : d ∈ enumDs (rs.map ruD) := by rw [hl]; simp
      obtain ⟨i, hi⟩ := List.mem_iff_getElem?.mp hm
      obtain ⟨y, hy, rfl⟩ := enum_get hi
      rw [List.getElem?_map] at hy
      obtain ⟨ru, h1, rfl⟩ := Option.map_eq_some_iff.mp hy
      exact ⟨i, ru, List.mem_of_getElem? h1, rfl⟩
    have e1 := rule_looks_at (hr ru hru)
    refine ⟨_, [some (.im (boD rs)), some (.im (.int (i : Nat))), some (.im (ruD ru))], rfl, .inl ?_, _, _, rfl⟩
    have f4 := false_in4
    simp only [ruD] at e1 ⊢
    simp [FD.ret, FD.lif, FD.bnd, FD.var, FD.bin, FD.un, FD.tst, FD.andT, FD.orT, FD.notT, FD.andV, FD.orV, FD.notV, FD.ifE, FD.nilA, FD.consA, FD.tupE, FD.lstE, FD.seqS, FD.exprS, FD.retS, FD.retM, FD.ifS, FD.stoM, FD.setS, FD.setM, FD.gN, FD.gsNil, FD.gsCons, FD.gT, FD.goS, FD.asgS, FD.parS, FD.augS, FD.itE, FD.itA, FD.cbE, FD.slE, FD.intE, FD.arN, FD.arD, FD.arB, FD.callD, FD.callM, FD.slotsOf, FD.argM, FD.putB, FD.isIm, FD.endF, FD.backs, FD.args0, FD.defF, FD.chn, FD.lstM, FD.dtM, FD.dkM, FD.imM, FD.frzE, FD.has, FD.chk, FD.pk, FD.pkLen, FD.peekD, FD.pkL, FD.pkR, e1, f4]
  obtain ⟨e', k1, x, y, rfl⟩ := key
  have hl' : ¬ (80 : Int) < ((rs.length : Nat) : Int) := by omega
  have b1 : gneed_book [some (.im (boD rs)), none, none] = .ok .nxt [some (.im (boD rs)), x, y] := by
    unfold gneed_book
    rw [seqS_nxt (e' := [some (.im (boD rs)), none, none]) (by simp [FD.ret, FD.lif, FD.bnd, FD.var, FD.bin, FD.un, FD.tst, FD.andT, FD.orT, FD.notT, FD.andV, FD.orV, FD.notV, FD.ifE, FD.nilA, FD.consA, FD.tupE, FD.lstE, FD.seqS, FD.exprS, FD.retS, FD.retM, FD.ifS, FD.stoM, FD.setS, FD.setM, FD.gN, FD.gsNil, FD.gsCons, FD.gT, FD.goS, FD.asgS, FD.parS, FD.augS, FD.itE, FD.itA, FD.cbE, FD.slE, FD.intE, FD.arN, FD.arD, FD.arB, FD.callD, FD.callM, FD.slotsOf, FD.argM, FD.putB, FD.isIm, FD.endF, FD.backs, FD.args0, FD.defF, FD.chn, FD.lstM, FD.dtM, FD.dkM, FD.imM, FD.frzE, FD.has, FD.chk, FD.pk, FD.pkLen, FD.peekD, FD.pkL, FD.pkR, boD, hl'])]
    rw [forS_eq (ds := enumDs (rs.map ruD)) (e0 := [some (.im (boD rs)), none, none]) (by simp [FD.ret, FD.lif, FD.bnd, FD.var, FD.bin, FD.un, FD.tst, FD.andT, FD.orT, FD.notT, FD.andV, FD.orV, FD.notV, FD.ifE, FD.nilA, FD.consA, FD.tupE, FD.lstE, FD.seqS, FD.exprS, FD.retS, FD.retM, FD.ifS, FD.stoM, FD.setS, FD.setM, FD.gN, FD.gsNil, FD.gsCons, FD.gT, FD.goS, FD.asgS, FD.parS, FD.augS, FD.itE, FD.itA, FD.cbE, FD.slE, FD.intE, FD.arN, FD.arD, FD.arB, FD.callD, FD.callM, FD.slotsOf, FD.argM, FD.putB, FD.isIm, FD.endF, FD.backs, FD.args0, FD.defF, FD.chn, FD.lstM, FD.dtM, FD.dkM, FD.imM, FD.frzE, FD.has, FD.chk, FD.pk, FD.pkLen, FD.peekD, FD.pkL, FD.pkR, boD, enA])]
    exact k1
  simp [FD.ret, FD.lif, FD.bnd, FD.var, FD.bin, FD.un, FD.tst, FD.andT, FD.orT, FD.notT, FD.andV, FD.orV, FD.notV, FD.ifE, FD.nilA, FD.consA, FD.tupE, FD.lstE, FD.seqS, FD.exprS, FD.retS, FD.retM, FD.ifS, FD.stoM, FD.setS, FD.setM, FD.gN, FD.gsNil, FD.gsCons, FD.gT, FD.goS, FD.asgS, FD.parS, FD.augS, FD.itE, FD.itA, FD.cbE, FD.slE, FD.intE, FD.arN, FD.arD, FD.arB, FD.callD, FD.callM, FD.slotsOf, FD.argM, FD.putB, FD.isIm, FD.endF, FD.backs, FD.args0, FD.defF, FD.chn, FD.lstM, FD.dtM, FD.dkM, FD.imM, FD.frzE, FD.has, FD.chk, FD.pk, FD.pkLen, FD.peekD, FD.pkL, FD.pkR, fneed_book, b1]
structure Ca where
  a : Nat
  l : Nat
  b : Nat
deriving DecidableEq
def caD (c : Ca) : D := .tuple [.str (sg c.a), .str (sg c.l), .str (sg c.b)]
def fits (r : Ru) (c : Ca) : Bool := r.l == c.l && ((c.a == r.a || 42 == r.a) && (c.b == r.b || 42 == r.b))
theorem fits_at {r : Ru} {c : Ca} : ffits_case [.im (ruD r), .im (caD c)] = .ok (.im (.bool (fits r c))) [.im (ruD r), .im (caD c)] := by
  cases q1 : r.l == c.l <;> cases q2 : (c.a == r.a || 42 == r.a) <;> simp [FD.ret, FD.lif, FD.bnd, FD.var, FD.bin, FD.un, FD.tst, FD.andT, FD.orT, FD.notT, FD.andV, FD.orV, FD.notV, FD.ifE, FD.nilA, FD.consA, FD.tupE, FD.lstE, FD.seqS, FD.exprS, FD.retS, FD.retM, FD.ifS, FD.stoM, FD.setS, FD.setM, FD.gN, FD.gsNil, FD.gsCons, FD.gT, FD.goS, FD.asgS, FD.parS, FD.augS, FD.itE, FD.itA, FD.cbE, FD.slE, FD.intE, FD.arN, FD.arD, FD.arB, FD.callD, FD.callM, FD.slotsOf, FD.argM, FD.putB, FD.isIm, FD.endF, FD.backs, FD.args0, FD.defF, FD.chn, FD.lstM, FD.dtM, FD.dkM, FD.imM, FD.frzE, FD.has, FD.chk, FD.pk, FD.pkLen, FD.peekD, FD.pkL, FD.pkR, ffits_case, gfits_case, ruD, caD, fits, star_sg, q1, q2]
def letters : List Nat := (List.range 26).map (· + 97)
def signsF (c e : Nat) : List Nat := if c = 42 then e :: letters else [c]
theorem tuple_let : tupleD [.str "abcdefghijklmnopqrstuvwxyz"] = some (.tuple (letters.map fun c => .str (sg c))) := by rfl
theorem signs_for_at {c e : Nat} : fsigns_for [.im (.str (sg c)), .im (.str (sg e))] = .ok (.im (.tuple ((signsF c e).map fun c => .str (sg c)))) [.im (.str (sg c)), .im (.str (sg e))] := by
  by_cases h : c = 42
  · subst h
    have hl : letters.length = 26 := by decide
    simp [FD.ret, FD.lif, FD.bnd, FD.var, FD.bin, FD.un, FD.tst, FD.andT, FD.orT, FD.notT, FD.andV, FD.orV, FD.notV, FD.ifE, FD.nilA, FD.consA, FD.tupE, FD.lstE, FD.seqS, FD.exprS, FD.retS, FD.retM, FD.ifS, FD.stoM, FD.setS, FD.setM, FD.gN, FD.gsNil, FD.gsCons, FD.gT, FD.goS, FD.asgS, FD.parS, FD.augS, FD.itE, FD.itA, FD.cbE, FD.slE, FD.intE, FD.arN, FD.arD, FD.arB, FD.callD, FD.callM, FD.slotsOf, FD.argM, FD.putB, FD.isIm, FD.endF, FD.backs, FD.args0, FD.defF, FD.chn, FD.lstM, FD.dtM, FD.dkM, FD.imM, FD.frzE, FD.has, FD.chk, FD.pk, FD.pkLen, FD.peekD, FD.pkL, FD.pkR, fsigns_for, gsigns_for, star_sg, tuple_let, signsF, hl]
  · simp [FD.ret, FD.lif, FD.bnd, FD.var, FD.bin, FD.un, FD.tst, FD.andT, FD.orT, FD.notT, FD.andV, FD.orV, FD.notV, FD.ifE, FD.nilA, FD.consA, FD.tupE, FD.lstE, FD.seqS, FD.exprS, FD.retS, FD.retM, FD.ifS, FD.stoM, FD.setS, FD.setM, FD.gN, FD.gsNil, FD.gsCons, FD.gT, FD.goS, FD.asgS, FD.parS, FD.augS, FD.itE, FD.itA, FD.cbE, FD.slE, FD.intE, FD.arN, FD.arD, FD.arB, FD.callD, FD.callM, FD.slotsOf, FD.argM, FD.putB, FD.isIm, FD.endF, FD.backs, FD.args0, FD.defF, FD.chn, FD.lstM, FD.dtM, FD.dkM, FD.imM, FD.frzE, FD.has, FD.chk, FD.pk, FD.pkLen, FD.peekD, FD.pkL, FD.pkR, fsigns_for, gsigns_for, star_sg, signsF, h]
def casesOf (r : Ru) : List Ca := (signsF r.a 60).flatMap fun x => (signsF r.b 62).map fun y => ⟨x, r.l, y⟩
theorem signsF_len (c e : Nat) : (signsF c e).length ≤ 27 := by
  unfold signsF
  split
  · have : letters.length = 26 := by decide
    simp [FD.ret, FD.lif, FD.bnd, FD.var, FD.bin, FD.un, FD.tst, FD.andT, FD.orT, FD.notT, FD.andV, FD.orV, FD.notV, FD.ifE, FD.nilA, FD.consA, FD.tupE, FD.lstE, FD.seqS, FD.exprS, FD.retS, FD.retM, FD.ifS, FD.stoM, FD.setS, FD.setM, FD.gN, FD.gsNil, FD.gsCons, FD.gT, FD.goS, FD.asgS, FD.parS, FD.augS, FD.itE, FD.itA, FD.cbE, FD.slE, FD.intE, FD.arN, FD.arD, FD.arB, FD.callD, FD.callM, FD.slotsOf, FD.argM, FD.putB, FD.isIm, FD.endF, FD.backs, FD.args0, FD.defF, FD.chn, FD.lstM, FD.dtM, FD.dkM, FD.imM, FD.frzE, FD.has, FD.chk, FD.pk, FD.pkLen, FD.peekD, FD.pkL, FD.pkR, this]
  · simp
theorem cases_len (r : Ru) : (casesOf r).length ≤ 729 := by
  unfold casesOf
  rw [List.length_flatMap]
  have h1 := signsF_len r.a 60
  have h2 := signsF_len r.b 62
  have : ∀ l : List Nat, (l.map fun x => ((signsF r.b 62).map fun y => (⟨x, r.l, y⟩ : Ca)).length).sum ≤ l.length * 27 := by
    intro l
    induction l with
    | nil => simp
    | cons x l ih =>
      rw [List.map_cons, List.sum_cons, List.length_cons, List.length_map]
      omega
  have := this (signsF r.a 60)
  omega
def rowOf (r : Ru) : D → List D
  | .str x => (signsF r.b 62).map fun y => PyData.tuple [.str x, .str (sg r.l), .str (sg y)]
  | _ => []
theorem rule_cases_at {r : Ru} : frule_cases [.im (ruD r)] = .ok (.im (.list ((casesOf r).map caD))) [.im (ruD r)] := by
  have s1 := signs_for_at (c := r.a) (e := 60)
  have s2 := signs_for_at (c := r.b) (e := 62)
  let A : D := .tuple ((signsF r.a 60).map fun c => .str (sg c))
  let Bh : D := .tuple ((signsF r.b 62).map fun c => .str (sg c))
  have b1 : grule_cases [some (.im (ruD r)), none, none, none, none] = .ok (.ret (.im (.list ((casesOf r).map caD)))) [some (.im (ruD r)), some (.im A), some (.im Bh), none, none] := by
    unfold grule_cases
    rw [seqS_nxt (e' := [some (.im (ruD r)), some (.im A), some (.im Bh), none, none]) (by simp [FD.ret, FD.lif, FD.bnd, FD.var, FD.bin, FD.un, FD.tst, FD.andT, FD.orT, FD.notT, FD.andV, FD.orV, FD.notV, FD.ifE, FD.nilA, FD.consA, FD.tupE, FD.lstE, FD.seqS, FD.exprS, FD.retS, FD.retM, FD.ifS, FD.stoM, FD.setS, FD.setM, FD.gN, FD.gsNil, FD.gsCons, FD.gT, FD.goS, FD.asgS, FD.parS, FD.augS, FD.itE, FD.itA, FD.cbE, FD.slE, FD.intE, FD.arN, FD.arD, FD.arB, FD.callD, FD.callM, FD.slotsOf, FD.argM, FD.putB, FD.isIm, FD.endF, FD.backs, FD.args0, FD.defF, FD.chn, FD.lstM, FD.dtM, FD.dkM, FD.imM, FD.frzE, FD.has, FD.chk, FD.pk, FD.pkLen, FD.peekD, FD.pkL, FD.pkR, ruD, first_sg, last_sg, s1, s2, A, Bh])]
    have fl : ((signsF r.a 60).map fun c => PyData.str (sg c)).flatMap (rowOf r) = (casesOf r).map caD := by
      unfold casesOf
      rw [List.flatMap_map, List.map_flatMap]
      congr 1
      funext x
      show (signsF r.b 62).map _ = _
      rw [List.map_map]
      rfl
    have ce := compE2_eq (vs := [3, 4]) (vs1 := [4]) (fi := itE itX (var 1)) (t := gN 3) (tt := ret true) (fi1 := itE itX (var 2)) (t1 := gN 4) (tt1 := ret true) (te := tupE (consA (var 3) (consA (bin ixA (var 0) (ret (.int 1))) (consA (var 4) nilA))))
      (e := [some (.im (ruD r)), some (.im A), some (.im Bh), none, none]) (e0 := [some (.im (ruD r)), some (.im A), some (.im Bh), none, none]) (ds := (signsF r.a 60).map fun c => PyData.str (sg c))
      (f := rowOf r) (by simp [FD.ret, FD.lif, FD.bnd, FD.var, FD.bin, FD.un, FD.tst, FD.andT, FD.orT, FD.notT, FD.andV, FD.orV, FD.notV, FD.ifE, FD.nilA, FD.consA, FD.tupE, FD.lstE, FD.seqS, FD.exprS, FD.retS, FD.retM, FD.ifS, FD.stoM, FD.setS, FD.setM, FD.gN, FD.gsNil, FD.gsCons, FD.gT, FD.goS, FD.asgS, FD.parS, FD.augS, FD.itE, FD.itA, FD.cbE, FD.slE, FD.intE, FD.arN, FD.arD, FD.arB, FD.callD, FD.callM, FD.slotsOf, FD.argM, FD.putB, FD.isIm, FD.endF, FD.backs, FD.args0, FD.defF, FD.chn, FD.lstM, FD.dtM, FD.dkM, FD.imM, FD.frzE, FD.has, FD.chk, FD.pk, FD.pkLen, FD.peekD, FD.pkL, FD.pkR, A]) rfl rfl rfl (by rw [fl, List.length_map]; have := cases_len r; omega) ?_
    · rw [fl] at ce
      simp only [retS, bnd]
      rw [ce]
      rfl
    · intro d hd
      obtain ⟨x, hx, rfl⟩ := List.mem_map.mp hd
      refine ⟨_, _, (signsF r.b 62).map fun c => PyData.str (sg c), _, [some (.im (ruD r)), some (.im A), some (.im Bh), some (.im (.str (sg x))), none], rfl, rfl, by simp [FD.ret, FD.lif, FD.bnd, FD.var, FD.bin, FD.un, FD.tst, FD.andT, FD.orT, FD.notT, FD.andV, FD.orV, FD.notV, FD.ifE, FD.nilA, FD.consA, FD.tupE, FD.lstE, FD.seqS, FD.exprS, FD.retS, FD.retM, FD.ifS, FD.stoM, FD.setS, FD.setM, FD.gN, FD.gsNil, FD.gsCons, FD.gT, FD.goS, FD.asgS, FD.parS, FD.augS, FD.itE, FD.itA, FD.cbE, FD.slE, FD.intE, FD.arN, FD.arD, FD.arB, FD.callD, FD.callM, FD.slotsOf, FD.argM, FD.putB, FD.isIm, FD.endF, FD.backs, FD.args0, FD.defF, FD.chn, FD.lstM, FD.dtM, FD.dkM, FD.imM, FD.frzE, FD.has, FD.chk, FD.pk, FD.pkLen, FD.peekD, FD.pkL, FD.pkR, wipeE, Bh]; rfl, rfl, ?_, rfl, rfl⟩
      have cl := compL_eq (vs := [4]) (t := gN 4) (tt := ret true) (te := tupE (consA (var 3) (consA (bin ixA (var 0) (ret (.int 1))) (consA (var 4) nilA)))) (e := [some (.im (ruD r)), some (.im A), some (.im Bh), some (.im (.str (sg x))), none])
        (f := fun d => some (PyData.tuple [.str (sg x), .str (sg r.l), d])) (ds := (signsF r.b 62).map fun c => PyData.str (sg c)) ?_
      · rw [List.filterMap_eq_map', List.map_map] at cl
        exact cl
      · intro d hd
        obtain ⟨y, hy, rfl⟩ := List.mem_map.mp hd
        exact ⟨_, rfl, .inr ⟨_, rfl, _, _, rfl, by simp [FD.ret, FD.lif, FD.bnd, FD.var, FD.bin, FD.un, FD.tst, FD.andT, FD.orT, FD.notT, FD.andV, FD.orV, FD.notV, FD.ifE, FD.nilA, FD.consA, FD.tupE, FD.lstE, FD.seqS, FD.exprS, FD.retS, FD.retM, FD.ifS, FD.stoM, FD.setS, FD.setM, FD.gN, FD.gsNil, FD.gsCons, FD.gT, FD.goS, FD.asgS, FD.parS, FD.augS, FD.itE, FD.itA, FD.cbE, FD.slE, FD.intE, FD.arN, FD.arD, FD.arB, FD.callD, FD.callM, FD.slotsOf, FD.argM, FD.putB, FD.isIm, FD.endF, FD.backs, FD.args0, FD.defF, FD.chn, FD.lstM, FD.dtM, FD.dkM, FD.imM, FD.frzE, FD.has, FD.chk, FD.pk, FD.pkLen, FD.peekD, FD.pkL, FD.pkR, ruD]; rfl, rfl, rfl⟩⟩
  simp [FD.ret, FD.lif, FD.bnd, FD.var, FD.bin, FD.un, FD.tst, FD.andT, FD.orT, FD.notT, FD.andV, FD.orV, FD.notV, FD.ifE, FD.nilA, FD.consA, FD.tupE, FD.lstE, FD.seqS, FD.exprS, FD.retS, FD.retM, FD.ifS, FD.stoM, FD.setS, FD.setM, FD.gN, FD.gsNil, FD.gsCons, FD.gT, FD.goS, FD.asgS, FD.parS, FD.augS, FD.itE, FD.itA, FD.cbE, FD.slE, FD.intE, FD.arN, FD.arD, FD.arB, FD.callD, FD.callM, FD.slotsOf, FD.argM, FD.putB, FD.isIm, FD.endF, FD.backs, FD.args0, FD.defF, FD.chn, FD.lstM, FD.dtM, FD.dkM, FD.imM, FD.frzE, FD.has, FD.chk, FD.pk, FD.pkLen, FD.peekD, FD.pkL, FD.pkR, frule_cases, b1]
end FDL
namespace FDL
open PySem L2 FD
def caK (c : Ca) : List Key := [.inr (sg c.a), .inr (sg c.l), .inr (sg c.b)]
theorem caK_inj {c d : Ca} (h : caK c = caK d) : c = d := by
  obtain ⟨a, l, b⟩ := c
  obtain ⟨a', l', b'⟩ := d
  simp only [caK, List.cons.injEq, Sum.inr.injEq, and_true] at h
  rw [sg_inj h.1, sg_inj h.2.1, sg_inj h.2.2]
abbrev Tb := List (Ca × Int)
def kms (tb : Tb) : List (List Key × M) := tb.map fun q => (caK q.1, M.im (.int q.2))
theorem look_kms {c : Ca} : ∀ tb : Tb, lookK (kms tb) (caK c) = (lookK tb c).map fun p => M.im (.int p)
  | [] => rfl
  | q :: tb => by
    show lookK ((caK q.1, M.im (.int q.2)) :: kms tb) (caK c) = _
    by_cases h : q.1 = c
    · rw [lookK_pos (p := (caK q.1, M.im (.int q.2))) (by rw [h]), lookK_pos h]; rfl
    · rw [lookK_neg (p := (caK q.1, M.im (.int q.2))) (fun z => h (caK_inj z)), lookK_neg h, look_kms tb]
theorem any_kms {c : Ca} : ∀ tb : Tb, ((kms tb).any fun kv => decide (kv.1 = caK c)) = tb.any fun kv => decide (kv.1 = c)
  | [] => rfl
  | q :: tb => by
    show (decide (caK q.1 = caK c) || (kms tb).any _) = (decide (q.1 = c) || tb.any _)
    rw [any_kms tb]
    congr 1
    by_cases h : q.1 = c
    · rw [h]; simp
    · rw [decide_eq_false h, decide_eq_false fun z => h (caK_inj z)]
theorem put_kms {c : Ca} {v : Int} (tb : Tb) : putKK (kms tb) (caK c) (M.im (.int v)) = kms (putKK tb c v) := by
  unfold putKK
  rw [any_kms]
  split
  · unfold kms
    rw [List.map_map, List.map_map]
    refine List.map_congr_left fun q _ => ?_
    show (if caK q.1 = caK c then (caK q.1, M.im (.int v)) else (caK q.1, M.im (.int q.2))) = (caK (if q.1 = c then (q.1, v) else q).1, M.im (.int (if q.1 = c then (q.1, v) else q).2))
    by_cases h : q.1 = c
    · rw [if_pos h, if_pos (by rw [h])]
    · rw [if_neg h, if_neg fun z => h (caK_inj z)]
  · unfold kms
    rw [List.map_append]
    rfl
theorem im_kms {k : List Key} : ∀ tb : Tb, imK (kms tb) k = true
  | [] => rfl
  | q :: tb => by
    show ((!decide (caK q.1 = k) || true) && imK (kms tb) k) = true
    rw [im_kms tb]
    simp
theorem put_len {c : Ca} {v : Int} (tb : Tb) : (putKK tb c v).length ≤ tb.length + 1 := by
  unfold putKK
  split
  · rw [List.length_map]; omega
  · simp
def minP (p : Int) (o : Option Int) : Int := if o.getD p < p then o.getD p else p
def putC (p : Int) (tb : Tb) (c : Ca) : Tb := putKK tb c (minP p (lookK tb c))
def putR (tb : Tb) (r : Ru) : Tb := (casesOf r).foldl (putC r.p) tb
def table (rs : List Ru) : Tb := rs.foldl putR []
theorem putC_len {p : Int} : ∀ (cs : List Ca) (tb : Tb), (cs.foldl (putC p) tb).length ≤ tb.length + cs.length
  | [], tb => Nat.le_refl _
  | c :: cs, tb => by
    rw [List.foldl_cons, List.length_cons]
    have h1 := putC_len (p := p) cs (putC p tb c)
    have h2 : (putC p tb c).length ≤ tb.length + 1 := put_len tb
    omega
theorem ks_ca {c : Ca} : ksOf (caD c) = some (caK c) := rfl
theorem len_kms (tb : Tb) : (kms tb).length = tb.length := by simp [FD.ret, FD.lif, FD.bnd, FD.var, FD.bin, FD.un, FD.tst, FD.andT, FD.orT, FD.notT, FD.andV, FD.orV, FD.notV, FD.ifE, FD.nilA, FD.consA, FD.tupE, FD.lstE, FD.seqS, FD.exprS, FD.retS, FD.retM, FD.ifS, FD.stoM, FD.setS, FD.setM, FD.gN, FD.gsNil, FD.gsCons, FD.gT, FD.goS, FD.asgS, FD.parS, FD.augS, FD.itE, FD.itA, FD.cbE, FD.slE, FD.intE, FD.arN, FD.arD, FD.arB, FD.callD, FD.callM, FD.slotsOf, FD.argM, FD.putB, FD.isIm, FD.endF, FD.backs, FD.args0, FD.defF, FD.chn, FD.lstM, FD.dtM, FD.dkM, FD.imM, FD.frzE, FD.has, FD.chk, FD.pk, FD.pkLen, FD.peekD, FD.pkL, FD.pkR, kms]
theorem store_at {tb : Tb} {c : Ca} {r : Ru} {b : D} (hl : tb.length < 900000) :
    storeS 1 (var 3) (cbE minD (consA (FD.bin ixA (var 2) (FD.ret (.int 3))) (consA (pkGet 1 (consA (var 3) (consA (FD.bin ixA (var 2) (FD.ret (.int 3))) nilA))) nilA))) [some (.im b), some (.dt (kms tb)), some (.im (ruD r)), some (.im (caD c))]
      = .ok .nxt [some (.im b), some (.dt (kms (putC r.p tb c))), some (.im (ruD r)), some (.im (caD c))] := by
  have g1 : getM 1 (caD c) (.int r.p) [some (.im b), some (.dt (kms tb)), some (.im (ruD r)), some (.im (caD c))] = some (.int ((lookK tb c).getD r.p)) := by
    simp only [getM, List.getElem?_cons_succ, List.getElem?_cons_zero, ks_ca, look_kms]
    cases lookK tb c <;> rfl
  have g2 : storeM 1 (caD c) (.int (minP r.p (lookK tb c))) [some (.im b), some (.dt (kms tb)), some (.im (ruD r)), some (.im (caD c))] = .ok .nxt [some (.im b), some (.dt (kms (putC r.p tb c))), some (.im (ruD r)), some (.im (caD c))] := by
    simp only [storeM, List.getElem?_cons_succ, List.getElem?_cons_zero, ks_ca, im_kms, Bool.and_true, len_kms]
    rw [if_pos (few_le' (by omega)), put_kms]
    rfl
  have g3 : pkGet 1 (consA (var 3) (consA (FD.bin ixA (var 2) (FD.ret (.int 3))) nilA)) [some (.im b), some (.dt (kms tb)), some (.im (ruD r)), some (.im (caD c))] = .ok (.int ((lookK tb c).getD r.p)) [some (.im b), some (.dt (kms tb)), some (.im (ruD r)), some (.im (caD c))] := by
    simp [FD.ret, FD.lif, FD.bnd, FD.var, FD.bin, FD.un, FD.tst, FD.andT, FD.orT, FD.notT, FD.andV, FD.orV, FD.notV, FD.ifE, FD.nilA, FD.consA, FD.tupE, FD.lstE, FD.seqS, FD.exprS, FD.retS, FD.retM, FD.ifS, FD.stoM, FD.setS, FD.setM, FD.gN, FD.gsNil, FD.gsCons, FD.gT, FD.goS, FD.asgS, FD.parS, FD.augS, FD.itE, FD.itA, FD.cbE, FD.slE, FD.intE, FD.arN, FD.arD, FD.arB, FD.callD, FD.callM, FD.slotsOf, FD.argM, FD.putB, FD.isIm, FD.endF, FD.backs, FD.args0, FD.defF, FD.chn, FD.lstM, FD.dtM, FD.dkM, FD.imM, FD.frzE, FD.has, FD.chk, FD.pk, FD.pkLen, FD.peekD, FD.pkL, FD.pkR, pkGet, isDkt, ruD]
    simp only [ruD] at g1
    rw [g1]
  have g4 : minD [.int r.p, .int ((lookK tb c).getD r.p)] = some (.int (minP r.p (lookK tb c))) := rfl
  have c1 : cbE minD (consA (FD.bin ixA (var 2) (FD.ret (.int 3))) (consA (pkGet 1 (consA (var 3) (consA (FD.bin ixA (var 2) (FD.ret (.int 3))) nilA))) nilA)) [some (.im b), some (.dt (kms tb)), some (.im (ruD r)), some (.im (caD c))] = .ok (.int (minP r.p (lookK tb c))) [some (.im b), some (.dt (kms tb)), some (.im (ruD r)), some (.im (caD c))] := by
    have h1 : FD.bin ixA (var 2) (FD.ret (.int 3)) [some (.im b), some (.dt (kms tb)), some (.im (ruD r)), some (.im (caD c))] = .ok (.int r.p) [some (.im b), some (.dt (kms tb)), some (.im (ruD r)), some (.im (caD c))] := rfl
    exact cbE_eq (consA_eq h1 (consA_eq g3 rfl)) g4
  unfold storeS bnd
  rw [c1]
  exact g2
theorem cases_loop {r : Ru} {b : D} : ∀ (cs : List Ca) (tb : Tb) (x : Option M), tb.length + cs.length < 900000 → ∃ y, loopS (gN 3) (storeS 1 (var 3) (cbE minD (consA (FD.bin ixA (var 2) (FD.ret (.int 3))) (consA (pkGet 1 (consA (var 3) (consA (FD.bin ixA (var 2) (FD.ret (.int 3))) nilA))) nilA)))) (cs.map caD)
    [some (.im b), some (.dt (kms tb)), some (.im (ruD r)), x] = .ok .nxt [some (.im b), some (.dt (kms (cs.foldl (putC r.p) tb))), some (.im (ruD r)), y]
  | [], tb, x, _ => ⟨x, rfl⟩
  | c :: cs, tb, x, hl => by
    rw [List.length_cons] at hl
    have h3 : (putC r.p tb c).length ≤ tb.length + 1 := put_len tb
    obtain ⟨y, e⟩ := cases_loop (r := r) (b := b) cs (putC r.p tb c) (some (.im (caD c))) (by omega)
    refine ⟨y, ?_⟩
    rw [List.map_cons, List.foldl_cons]
    have g1 : gN 3 (caD c) [some (.im b), some (.dt (kms tb)), some (.im (ruD r)), x] = .ok () [some (.im b), some (.dt (kms tb)), some (.im (ruD r)), some (.im (caD c))] := rfl
    rw [loopS_cons g1 (store_at (tb := tb) (c := c) (r := r) (b := b) (by omega)), e]
theorem rules_loop {b : D} : ∀ (rs : List Ru) (tb : Tb) (x y : Option M), tb.length + rs.length * 729 < 900000 → ∃ x' y', loopS (gN 2) (forS (itE itX (callD frule_cases (arD (var 2) arN))) (gN 3) (storeS 1 (var 3) (cbE minD (consA (FD.bin ixA (var 2) (FD.ret (.int 3))) (consA (pkGet 1 (consA (var 3) (consA (FD.bin ixA (var 2) (FD.ret (.int 3))) nilA))) nilA))))) (rs.map ruD)
    [some (.im b), some (.dt (kms tb)), x, y] = .ok .nxt [some (.im b), some (.dt (kms (rs.foldl putR tb))), x', y']
  | [], tb, x, y, _ => ⟨x, y, rfl⟩
  | r :: rs, tb, x, y, hl => by
    rw [List.length_cons] at hl
    have hc := cases_len r
    have hp : (putR tb r).length ≤ tb.length + (casesOf r).length := putC_len _ _
    obtain ⟨z, hz⟩ := cases_loop (r := r) (b := b) (casesOf r) tb y (by omega)
    obtain ⟨x', y', ih⟩ := rules_loop (b := b) rs (putR tb r) (some (.im (ruD r))) z (by omega)
    refine ⟨x', y', ?_⟩
    rw [List.map_cons, List.foldl_cons]
    have g1 : gN 2 (ruD r) [some (.im b), some (.dt (kms tb)), x, y] = .ok () [some (.im b), some (.dt (kms tb)), some (.im (ruD r)), y] := rfl
    have g2 : itE itX (callD frule_cases (arD (var 2) arN)) [some (.im b), some (.dt (kms tb)), some (.im (ruD r)), y] = .ok ((casesOf r).map caD) [some (.im b), some (.dt (kms tb)), some (.im (ruD r)), y] := itE_eq (call1 rfl rule_cases_at rfl) rfl
    rw [loopS_cons g1 (by rw [forS_eq g2]; exact hz)]
    exact ih
theorem toD_kms : ∀ tb : Tb, (M.dt (kms tb)).toD = some (.dict (tb.map fun q => (caD q.1, .int q.2))) := by
  intro tb
  have h1 : imAll ((kms tb).map (·.2)) = some (tb.map fun q => PyData.int q.2) := by
    have e : (kms tb).map (·.2) = (tb.map fun q => PyData.int q.2).map M.im := by
      unfold kms
      rw [List.map_map, List.map_map]
      rfl
    rw [e, imAll_im]
  have h2 : ((kms tb).map (·.1)).zip (tb.map fun q => PyData.int q.2) = tb.map fun q => (caK q.1, PyData.int q.2) := by
    unfold kms
    rw [List.map_map, List.zip_map', ]
    rfl
  show (imAll ((kms tb).map (·.2))).map _ = _
  rw [h1]
  show some (PyData.dict ((((kms tb).map (·.1)).zip (tb.map fun q => PyData.int q.2)).map _)) = _
  rw [h2, List.map_map]
  rfl
def tbD (tb : Tb) : D := .dict (tb.map fun q => (caD q.1, .int q.2))
theorem price_table_at {rs : List Ru} (h : rs.length ≤ 80) : fprice_table [.im (boD rs)] = .ok (.im (tbD (table rs))) [.im (boD rs)] := by
  obtain ⟨x', y', hl⟩ := rules_loop (b := boD rs) rs [] none none (by simp; omega)
  have b1 : gprice_table [some (.im (boD rs)), none, none, none] = .ok (.ret (.im (tbD (table rs)))) [some (.im (boD rs)), some (.im (tbD (table rs))), x', y'] := by
    unfold gprice_table
    rw [seqS_nxt (e' := [some (.im (boD rs)), some (.dt (kms [])), none, none]) (by rfl)]
    rw [seqS_nxt (e' := [some (.im (boD rs)), some (.dt (kms (table rs))), x', y']) (by rw [forS_eq (ds := rs.map ruD) (e0 := [some (.im (boD rs)), some (.dt (kms [])), none, none]) (by rfl)]; exact hl)]
    refine ret_eq ?_
    have := toD_kms (table rs)
    simp only [var, List.getElem?_cons_succ, List.getElem?_cons_zero, this]
    rfl
  simp [FD.ret, FD.lif, FD.bnd, FD.var, FD.bin, FD.un, FD.tst, FD.andT, FD.orT, FD.notT, FD.andV, FD.orV, FD.notV, FD.ifE, FD.nilA, FD.consA, FD.tupE, FD.lstE, FD.seqS, FD.exprS, FD.retS, FD.retM, FD.ifS, FD.stoM, FD.setS, FD.setM, FD.gN, FD.gsNil, FD.gsCons, FD.gT, FD.goS, FD.asgS, FD.parS, FD.augS, FD.itE, FD.itA, FD.cbE, FD.slE, FD.intE, FD.arN, FD.arD, FD.arB, FD.callD, FD.callM, FD.slotsOf, FD.argM, FD.putB, FD.isIm, FD.endF, FD.backs, FD.args0, FD.defF, FD.chn, FD.lstM, FD.dtM, FD.dkM, FD.imM, FD.frzE, FD.has, FD.chk, FD.pk, FD.pkLen, FD.peekD, FD.pkL, FD.pkR, fprice_table, b1]
end FDL
namespace FDL
open PySem L2 FD
section
variable {κ α : Type} [DecidableEq κ]
theorem lookK_any (k : κ) : ∀ l : List (κ × α), (l.any fun kv => decide (kv.1 = k)) = (lookK l k).isSome
  | [] => rfl
  | q :: l => by
    by_cases h : q.1 = k
    · rw [lookK_pos h, List.any_cons, decide_eq_true h]; rfl
    · rw [lookK_neg h, List.any_cons, decide_eq_false h, Bool.false_or, lookK_any k l]
theorem lookK_repl (k c : κ) (v : α) : ∀ l : List (κ × α), lookK (l.map fun kv => if kv.1 = k then (kv.1, v) else kv) c = (lookK l c).map fun x => if c = k then v else x
  | [] => rfl
  | q :: l => by
    rw [List.map_cons]
    by_cases h : q.1 = k
    · rw [if_pos h]
      by_cases hc : q.1 = c
      · rw [lookK_pos (p := (q.1, v)) hc, lookK_pos hc]
        simp [FD.ret, FD.lif, FD.bnd, FD.var, FD.bin, FD.un, FD.tst, FD.andT, FD.orT, FD.notT, FD.andV, FD.orV, FD.notV, FD.ifE, FD.nilA, FD.consA, FD.tupE, FD.lstE, FD.seqS, FD.exprS, FD.retS, FD.retM, FD.ifS, FD.stoM, FD.setS, FD.setM, FD.gN, FD.gsNil, FD.gsCons, FD.gT, FD.goS, FD.asgS, FD.parS, FD.augS, FD.itE, FD.itA, FD.cbE, FD.slE, FD.intE, FD.arN, FD.arD, FD.arB, FD.callD, FD.callM, FD.slotsOf, FD.argM, FD.putB, FD.isIm, FD.endF, FD.backs, FD.args0, FD.defF, FD.chn, FD.lstM, FD.dtM, FD.dkM, FD.imM, FD.frzE, FD.has, FD.chk, FD.pk, FD.pkLen, FD.peekD, FD.pkL, FD.pkR, ← hc, h]
      · rw [lookK_neg (p := (q.1, v)) hc, lookK_neg hc, lookK_repl k c v l]
    · rw [if_neg h]
      by_cases hc : q.1 = c
      · rw [lookK_pos hc, lookK_pos hc]
        have : ¬ c = k := fun z => h (hc.trans z)
        simp [FD.ret, FD.lif, FD.bnd, FD.var, FD.bin, FD.un, FD.tst, FD.andT, FD.orT, FD.notT, FD.andV, FD.orV, FD.notV, FD.ifE, FD.nilA, FD.consA, FD.tupE, FD.lstE, FD.seqS, FD.exprS, FD.retS, FD.retM, FD.ifS, FD.stoM, FD.setS, FD.setM, FD.gN, FD.gsNil, FD.gsCons, FD.gT, FD.goS, FD.asgS, FD.parS, FD.augS, FD.itE, FD.itA, FD.cbE, FD.slE, FD.intE, FD.arN, FD.arD, FD.arB, FD.callD, FD.callM, FD.slotsOf, FD.argM, FD.putB, FD.isIm, FD.endF, FD.backs, FD.args0, FD.defF, FD.chn, FD.lstM, FD.dtM, FD.dkM, FD.imM, FD.frzE, FD.has, FD.chk, FD.pk, FD.pkLen, FD.peekD, FD.pkL, FD.pkR, this]
      · rw [lookK_neg hc, lookK_neg hc, lookK_repl k c v l]
theorem lookK_snoc (k c : κ) (v : α) : ∀ l : List (κ × α), lookK l k = none → lookK (l ++ [(k, v)]) c = if c = k then some v else lookK l c
  | [], _ => by
    by_cases h : c = k
    · rw [if_pos h, List.nil_append, lookK_pos (p := (k, v)) h.symm]
    · rw [if_neg h, List.nil_append, lookK_neg (p := (k, v)) fun z => h z.symm]
  | q :: l, hn => by
    rw [List.cons_append]
    by_cases h : q.1 = k
    · rw [lookK_pos h] at hn; cases hn
    · rw [lookK_neg h] at hn
      by_cases hc : q.1 = c
      · rw [lookK_pos hc, lookK_pos hc, if_neg fun z => h (hc.trans z)]
      · rw [lookK_neg hc, lookK_neg hc, lookK_snoc k c v l hn]
theorem lookK_put (l : List (κ × α)) (k c : κ) (v : α) : lookK (putKK l k v) c = if c = k then some v else lookK l c := by
  unfold putKK
  rw [lookK_any]
  by_cases h : (lookK l k).isSome = true
  · rw [if_pos h, lookK_repl]
    by_cases hc : c = k
    · subst hc
      rw [if_pos rfl]
      obtain ⟨x, hx⟩ := Option.isSome_iff_exists.mp h
      rw [hx]
      simp
    · rw [if_neg hc]
      cases lookK l c <;> simp [FD.ret, FD.lif, FD.bnd, FD.var, FD.bin, FD.un, FD.tst, FD.andT, FD.orT, FD.notT, FD.andV, FD.orV, FD.notV, FD.ifE, FD.nilA, FD.consA, FD.tupE, FD.lstE, FD.seqS, FD.exprS, FD.retS, FD.retM, FD.ifS, FD.stoM, FD.setS, FD.setM, FD.gN, FD.gsNil, FD.gsCons, FD.gT, FD.goS, FD.asgS, FD.parS, FD.augS, FD.itE, FD.itA, FD.cbE, FD.slE, FD.intE, FD.arN, FD.arD, FD.arB, FD.callD, FD.callM, FD.slotsOf, FD.argM, FD.putB, FD.isIm, FD.endF, FD.backs, FD.args0, FD.defF, FD.chn, FD.lstM, FD.dtM, FD.dkM, FD.imM, FD.frzE, FD.has, FD.chk, FD.pk, FD.pkLen, FD.peekD, FD.pkL, FD.pkR, hc]
  · rw [if_neg h]
    exact lookK_snoc k c v l (by simpa using h)
theorem put_nodup (l : List (κ × α)) (k : κ) (v : α) (h : (l.map (·.1)).Nodup) : ((putKK l k v).map (·.1)).Nodup := by
  unfold putKK
  by_cases c : (l.any fun kv => decide (kv.1 = k)) = true
  · rw [if_pos c, List.map_map]
    have : (l.map ((fun x => x.1) ∘ fun kv => if kv.1 = k then (kv.1, v) else kv)) = l.map (·.1) := List.map_congr_left fun a _ => by
      show (if a.1 = k then (a.1, v) else a).1 = a.1
      split <;> rfl
    rw [this]
    exact h
  · rw [if_neg c, List.map_append]
    refine List.nodup_append.mpr ⟨h, by simp, fun a ha b hb z => c ?_⟩
    simp at hb
    subst hb z
    obtain ⟨q, hq, e⟩ := List.mem_map.mp ha
    exact List.any_eq_true.mpr ⟨q, hq, by simpa using e⟩
end
theorem nd_len {α : Type} [DecidableEq α] : ∀ {a b : List α}, a.Nodup → (∀ x ∈ a, x ∈ b) → a.length ≤ b.length
  | [], _, _, _ => Nat.zero_le _
  | x :: a, b, n, h => by
    rw [List.nodup_cons] at n
    have hx := h x List.mem_cons_self
    have ih := nd_len (a := a) (b := b.erase x) n.2 fun y hy => (List.mem_erase_of_ne (fun z : y = x => n.1 (by rw [← z]; exact hy))).mpr (h y (List.mem_cons_of_mem _ hy))
    rw [List.length_erase_of_mem hx] at ih
    have := List.length_pos_of_mem hx
    rw [List.length_cons]
    omega
theorem minP_idem (p : Int) (o : Option Int) : minP p (some (minP p o)) = minP p o := by
  unfold minP
  cases o with
  | none => simp
  | some v =>
    simp only [Option.getD_some]
    by_cases h : v < p <;> simp [FD.ret, FD.lif, FD.bnd, FD.var, FD.bin, FD.un, FD.tst, FD.andT, FD.orT, FD.notT, FD.andV, FD.orV, FD.notV, FD.ifE, FD.nilA, FD.consA, FD.tupE, FD.lstE, FD.seqS, FD.exprS, FD.retS, FD.retM, FD.ifS, FD.stoM, FD.setS, FD.setM, FD.gN, FD.gsNil, FD.gsCons, FD.gT, FD.goS, FD.asgS, FD.parS, FD.augS, FD.itE, FD.itA, FD.cbE, FD.slE, FD.intE, FD.arN, FD.arD, FD.arB, FD.callD, FD.callM, FD.slotsOf, FD.argM, FD.putB, FD.isIm, FD.endF, FD.backs, FD.args0, FD.defF, FD.chn, FD.lstM, FD.dtM, FD.dkM, FD.imM, FD.frzE, FD.has, FD.chk, FD.pk, FD.pkLen, FD.peekD, FD.pkL, FD.pkR, h]
theorem look_cases (p : Int) (c : Ca) : ∀ (cs : List Ca) (tb : Tb), lookK (cs.foldl (putC p) tb) c = if c ∈ cs then some (minP p (lookK tb c)) else lookK tb c
  | [], tb => by simp
  | d :: cs, tb => by
    rw [List.foldl_cons, look_cases p c cs (putC p tb d)]
    unfold putC
    rw [lookK_put]
    by_cases h : c = d
    · subst h
      simp only [if_true, List.mem_cons, true_or, minP_idem]
      split <;> rfl
    · simp only [List.mem_cons, h, false_or, if_false]
theorem cases_nodup (p : Int) : ∀ (cs : List Ca) (tb : Tb), (tb.map (·.1)).Nodup → ((cs.foldl (putC p) tb).map (·.1)).Nodup
  | [], _, h => h
  | d :: cs, tb, h => by
    rw [List.foldl_cons]
    exact cases_nodup p cs _ (put_nodup tb d _ h)
def bestF (rs : List Ru) (c : Ca) (o : Option Int) : Option Int := rs.foldl (fun o r => if c ∈ casesOf r then some (minP r.p o) else o) o
theorem look_rules (c : Ca) : ∀ (rs : List Ru) (tb : Tb), lookK (rs.foldl putR tb) c = bestF rs c (lookK tb c)
  | [], _ => rfl
  | r :: rs, tb => by
    rw [List.foldl_cons, look_rules c rs (putR tb r)]
    unfold putR bestF
    rw [List.foldl_cons, look_cases]
theorem table_nodup : ∀ (rs : List Ru) (tb : Tb), (tb.map (·.1)).Nodup → ((rs.foldl putR tb).map (·.1)).Nodup
  | [], _, h => h
  | r :: rs, tb, h => by
    rw [List.foldl_cons]
    exact table_nodup rs _ (cases_nodup _ _ _ h)
def best (rs : List Ru) (c : Ca) : Option Int := bestF rs c none
theorem look_table (rs : List Ru) (c : Ca) : lookK (table rs) c = best rs c := look_rules c rs []
theorem bestF_spec (c : Ca) : ∀ (rs : List Ru) (o : Option Int), (bestF rs c o = none → o = none ∧ ∀ r ∈ rs, c ∉ casesOf r) ∧ ∀ v, bestF rs c o = some v → (o = some v ∨ ∃ r ∈ rs, c ∈ casesOf r ∧ r.p = v) ∧ (∀ w, o = some w → v ≤ w) ∧ ∀ r ∈ rs, c ∈ casesOf r → v ≤ r.p
  | [], o => ⟨fun h => ⟨h, fun r hr => by cases hr⟩, fun v h => ⟨.inl h, fun w hw => by
      have : o = some v := h
      rw [this] at hw
      cases hw
      exact Int.le_refl _, fun r hr => by cases hr⟩⟩
  | r :: rs, o => by
    have ih := bestF_spec c rs (if c ∈ casesOf r then some (minP r.p o) else o)
    have e : bestF (r :: rs) c o = bestF rs c (if c ∈ casesOf r then some (minP r.p o) else o) := rfl
    rw [e]
    by_cases hc : c ∈ casesOf r
    · rw [if_pos hc] at ih ⊢
      refine ⟨fun h => ?_, fun v h => ?_⟩
      · have := (ih.1 h).1
        cases this
      · obtain ⟨a, b, d⟩ := ih.2 v h
        have b' := b _ rfl
        have m1 : minP r.p o ≤ r.p := by unfold minP; split <;> omega
        have m2 : ∀ w, o = some w → minP r.p o ≤ w := fun w hw => by
          subst hw
          unfold minP
          simp only [Option.getD_some]
          split <;> omega
        refine ⟨?_, fun w hw => Int.le_trans b' (m2 w hw), fun x hx hcx => ?_⟩
        · rcases a with a | ⟨x, hx, h1, h2⟩
          · have a' := Option.some.inj a
            unfold minP at a'
            cases o with
            | none => simp at a'; exact .inr ⟨r, List.mem_cons_self, hc, a'⟩
            | some w =>
              simp only [Option.getD_some] at a'
              split at a'
              · exact .inl (by rw [a'])
              · exact .inr ⟨r, List.mem_cons_self, hc, a'⟩
          · exact .inr ⟨x, List.mem_cons_of_mem _ hx, h1, h2⟩
        · rcases List.mem_cons.mp hx with z | z
          · subst z; exact Int.le_trans b' m1
          · exact d x z hcx
    · rw [if_neg hc] at ih ⊢
      refine ⟨fun h => ?_, fun v h => ?_⟩
      · obtain ⟨a, b⟩ := ih.1 h
        exact ⟨a, fun x hx => (List.mem_cons.mp hx).elim (fun z => z ▸ hc) (b x)⟩
      · obtain ⟨a, b, d⟩ := ih.2 v h
        refine ⟨a.imp id fun ⟨x, hx, h1⟩ => ⟨x, List.mem_cons_of_mem _ hx, h1⟩, b, fun x hx hcx => ?_⟩
        rcases List.mem_cons.mp hx with z | z
        · subst z; exact absurd hcx hc
        · exact d x z hcx
theorem best_none {rs : List Ru} {c : Ca} (h : best rs c = none) : ∀ r ∈ rs, c ∉ casesOf r := ((bestF_spec c rs none).1 h).2
theorem best_some {rs : List Ru} {c : Ca} {v : Int} (h : best rs c = some v) : (∃ r ∈ rs, c ∈ casesOf r ∧ r.p = v) ∧ ∀ r ∈ rs, c ∈ casesOf r → v ≤ r.p := by
  obtain ⟨a, _, d⟩ := (bestF_spec c rs none).2 v h
  exact ⟨a.resolve_left (by simp), d⟩
def sameT (a b : Tb) : Bool := (a.length == b.length) && a.all fun q => lookK b q.1 == some q.2
theorem sameT_iff {a b : Tb} (na : (a.map (·.1)).Nodup) (nb : (b.map (·.1)).Nodup) : sameT a b = true ↔ ∀ c, lookK a c = lookK b c := by
  unfold sameT
  rw [Bool.and_eq_true, List.all_eq_true, beq_iff_eq]
  constructor
  · rintro ⟨hl, ha⟩ c
    have sub : ∀ x ∈ a.map (·.1), x ∈ b.map (·.1) := fun x hx => by
      obtain ⟨q, hq, rfl⟩ := List.mem_map.mp hx
      have := ha q hq
      rw [beq_iff_eq] at this
      exact List.mem_map.mpr ⟨_, lookK_in this, rfl⟩
    cases h1 : lookK a c with
    | some v =>
      have := ha _ (lookK_in h1)
      rw [beq_iff_eq] at this
      exact this.symm
    | none =>
      cases h2 : lookK b c with
      | none => rfl
      | some v =>
        exfalso
        have hb : c ∈ b.map (·.1) := List.mem_map.mpr ⟨_, lookK_in h2, rfl⟩
        have hna : c ∉ a.map (·.1) := fun z => by
          obtain ⟨q, hq, e⟩ := List.mem_map.mp z
          have := look_mem na (show (q.1, q.2) ∈ a from hq)
          rw [e, h1] at this
          cases this
        have s2 : ∀ x ∈ a.map (·.1), x ∈ (b.map (·.1)).erase c := fun x hx => (nb.mem_erase_iff).mpr ⟨fun z => hna (z ▸ hx), sub x hx⟩
        have l2 : (a.map (·.1)).length ≤ ((b.map (·.1)).erase c).length := nd_len na s2
        rw [List.length_erase_of_mem hb, List.length_map, List.length_map] at l2
        have : 0 < b.length := by
          have := List.length_pos_of_mem hb
          rwa [List.length_map] at this
        omega
  · intro h
    have f : ∀ {x y : Tb}, (x.map (·.1)).Nodup → (∀ c, lookK x c = lookK y c) → x.length ≤ y.length := fun {x y} nx hh => by
      have s : ∀ k ∈ x.map (·.1), k ∈ y.map (·.1) := fun k hk => by
        obtain ⟨q, hq, rfl⟩ := List.mem_map.mp hk
        have := look_mem nx (show (q.1, q.2) ∈ x from hq)
        rw [hh] at this
        exact List.mem_map.mpr ⟨_, lookK_in this, rfl⟩
      have := nd_len nx s
      rwa [List.length_map, List.length_map] at this
    refine ⟨Nat.le_antisymm (f na h) (f nb fun c => (h c).symm), fun q hq => ?_⟩
    rw [beq_iff_eq, ← h]
    exact look_mem na hq
end FDL
namespace FDL
open PySem L2 FD
def rowT (tb : Tb) : List (List Key × D) := tb.map fun q => (caK q.1, .int q.2)
theorem dictT_tb (tb : Tb) : dictT (tb.map fun q => (caD q.1, PyData.int q.2)) = some (rowT tb) := by
  have := dictT_of (rowT tb)
  unfold rowT at this ⊢
  rw [List.map_map] at this
  exact this
theorem look_row {c : Ca} : ∀ tb : Tb, lookK (rowT tb) (caK c) = (lookK tb c).map PyData.int
  | [] => rfl
  | q :: tb => by
    show lookK ((caK q.1, PyData.int q.2) :: rowT tb) (caK c) = _
    by_cases h : q.1 = c
    · rw [lookK_pos (p := (caK q.1, PyData.int q.2)) (by rw [h]), lookK_pos h]; rfl
    · rw [lookK_neg (p := (caK q.1, PyData.int q.2)) (fun z => h (caK_inj z)), lookK_neg h, look_row tb]
theorem ok_row (tb : Tb) : ((rowT tb).all fun q => okV q.2) = true := by
  rw [List.all_eq_true]
  intro q hq
  obtain ⟨x, _, rfl⟩ := List.mem_map.mp hq
  simp [FD.ret, FD.lif, FD.bnd, FD.var, FD.bin, FD.un, FD.tst, FD.andT, FD.orT, FD.notT, FD.andV, FD.orV, FD.notV, FD.ifE, FD.nilA, FD.consA, FD.tupE, FD.lstE, FD.seqS, FD.exprS, FD.retS, FD.retM, FD.ifS, FD.stoM, FD.setS, FD.setM, FD.gN, FD.gsNil, FD.gsCons, FD.gT, FD.goS, FD.asgS, FD.parS, FD.augS, FD.itE, FD.itA, FD.cbE, FD.slE, FD.intE, FD.arN, FD.arD, FD.arB, FD.callD, FD.callM, FD.slotsOf, FD.argM, FD.putB, FD.isIm, FD.endF, FD.backs, FD.args0, FD.defF, FD.chn, FD.lstM, FD.dtM, FD.dkM, FD.imM, FD.frzE, FD.has, FD.chk, FD.pk, FD.pkLen, FD.peekD, FD.pkL, FD.pkR, okV, flatD, PyData.canLay0]
theorem eqT_row (a b : Tb) : eqT (rowT a) (rowT b) = sameT a b := by
  unfold eqT sameT rowT
  rw [List.length_map, List.length_map, List.all_map]
  congr 1
  congr 1
  funext q
  show (match lookK (rowT b) (caK q.1) with | some y => PyData.eqv (.int q.2) y | none => false) = (lookK b q.1 == some q.2)
  rw [look_row]
  cases lookK b q.1 with
  | none => rfl
  | some v =>
    simp only [Option.map_some, PyData.eqv]
    rw [Bool.eq_iff_iff, beq_iff_eq, beq_iff_eq]
    exact ⟨fun h => by rw [h], fun h => (Option.some.inj h).symm⟩
theorem eqA_tb (a b : Tb) : eqA (tbD a) (tbD b) = some (.bool (sameT a b)) := by
  show eqDT (tbD a) (tbD b) = _
  unfold eqDT tbD
  simp only [dictT_tb, Option.bind_some, ok_row, Bool.and_self, if_true, eqT_row]
theorem two_tables_at {rs rs' : List Ru} (h : okBo rs) (h' : okBo rs') : ftwo_tables [.im (boD rs), .im (boD rs')] = .ok (.im (.tuple [tbD (table rs), tbD (table rs')])) [.im (boD rs), .im (boD rs')] := by
  have n1 := need_book_at h
  have n2 := need_book_at h'
  have p1 := price_table_at h.2
  have p2 := price_table_at h'.2
  simp [FD.ret, FD.lif, FD.bnd, FD.var, FD.bin, FD.un, FD.tst, FD.andT, FD.orT, FD.notT, FD.andV, FD.orV, FD.notV, FD.ifE, FD.nilA, FD.consA, FD.tupE, FD.lstE, FD.seqS, FD.exprS, FD.retS, FD.retM, FD.ifS, FD.stoM, FD.setS, FD.setM, FD.gN, FD.gsNil, FD.gsCons, FD.gT, FD.goS, FD.asgS, FD.parS, FD.augS, FD.itE, FD.itA, FD.cbE, FD.slE, FD.intE, FD.arN, FD.arD, FD.arB, FD.callD, FD.callM, FD.slotsOf, FD.argM, FD.putB, FD.isIm, FD.endF, FD.backs, FD.args0, FD.defF, FD.chn, FD.lstM, FD.dtM, FD.dkM, FD.imM, FD.frzE, FD.has, FD.chk, FD.pk, FD.pkLen, FD.peekD, FD.pkL, FD.pkR, ftwo_tables, gtwo_tables, n1, n2, p1, p2]
theorem same_at {rs rs' : List Ru} (h : okBo rs) (h' : okBo rs') : fsame [.im (boD rs), .im (boD rs')] = .ok (.im (.bool (sameT (table rs) (table rs')))) [.im (boD rs), .im (boD rs')] := by
  have t1 := two_tables_at h h'
  have e1 := eqA_tb (table rs) (table rs')
  simp [FD.ret, FD.lif, FD.bnd, FD.var, FD.bin, FD.un, FD.tst, FD.andT, FD.orT, FD.notT, FD.andV, FD.orV, FD.notV, FD.ifE, FD.nilA, FD.consA, FD.tupE, FD.lstE, FD.seqS, FD.exprS, FD.retS, FD.retM, FD.ifS, FD.stoM, FD.setS, FD.setM, FD.gN, FD.gsNil, FD.gsCons, FD.gT, FD.goS, FD.asgS, FD.parS, FD.augS, FD.itE, FD.itA, FD.cbE, FD.slE, FD.intE, FD.arN, FD.arD, FD.arB, FD.callD, FD.callM, FD.slotsOf, FD.argM, FD.putB, FD.isIm, FD.endF, FD.backs, FD.args0, FD.defF, FD.chn, FD.lstM, FD.dtM, FD.dkM, FD.imM, FD.frzE, FD.has, FD.chk, FD.pk, FD.pkLen, FD.peekD, FD.pkL, FD.pkR, fsame, gsame, t1, e1]
theorem cut_hi {α : Type} (xs : List α) (n : Nat) : cutD xs none (some (n : Int)) = xs.take n := by
  unfold cutD
  rw [HT.sIx_nat]
  show (xs.drop 0).take (min n xs.length - 0) = _
  rw [List.drop_zero, Nat.sub_zero, List.take_eq_take_iff]
  omega
theorem cut_lo {α : Type} (xs : List α) (n : Nat) : cutD xs (some (n : Int)) none = xs.drop n := by
  unfold cutD
  rw [HT.sIx_nat]
  show (xs.drop (min n xs.length)).take (xs.length - min n xs.length) = _
  rw [List.take_of_length_le (by rw [List.length_drop]; exact Nat.le_refl _)]
  by_cases h : n ≤ xs.length
  · rw [Nat.min_eq_left h]
  · rw [Nat.min_eq_right (by omega), List.drop_length, List.drop_eq_nil_of_le (by omega)]
def without {α : Type} (rs : List α) (n : Nat) : List α := rs.take n ++ rs.drop (n + 1)
theorem without_len {α : Type} {rs : List α} {n : Nat} (h : n < rs.length) : (without rs n).length + 1 = rs.length := by
  unfold without
  rw [List.length_append, List.length_take, List.length_drop]
  omega
theorem without_sub {α : Type} {rs : List α} {n : Nat} {x : α} (h : x ∈ without rs n) : x ∈ rs := by
  rcases List.mem_append.mp h with h | h
  · exact List.mem_of_mem_take h
  · exact List.mem_of_mem_drop h
theorem okBo_without {rs : List Ru} {n : Nat} (h : okBo rs) : okBo (without rs n) := by
  refine ⟨fun r hr => h.1 r (without_sub hr), Nat.le_trans ?_ h.2⟩
  unfold without
  rw [List.length_append, List.length_take, List.length_drop]
  omega
theorem sl_hi {ds : List D} {n : Nat} : slD (.tuple ds) none (some (n : Int)) = some (.tuple (ds.take n)) := by
  simp only [slD, cut_hi]
theorem sl_lo {ds : List D} {n : Nat} : slD (.tuple ds) (some (n : Int)) none = some (.tuple (ds.drop n)) := by
  simp only [slD, cut_lo]
theorem bo_without (rs : List Ru) (n : Nat) : (rs.map ruD).take n ++ (rs.map ruD).drop (n + 1) = (without rs n).map ruD := by
  unfold without
  rw [List.map_append, List.map_take, List.map_drop]
theorem slices_at {rs : List Ru} {n i j : Nat} {e : FD.Env} (hl : rs.length ≤ 1000) (h1 : var i e = .ok (boD rs) e) (h2 : var j e = .ok (.int (n : Nat)) e) :
    FD.bin addD (slE (var i) (FD.ret none) (intE (var j))) (slE (var i) (intE (FD.bin addD (var j) (FD.ret (.int 1)))) (FD.ret none)) e = .ok (boD (without rs n)) e := by
  have a1 : slE (var i) (FD.ret none) (intE (var j)) e = .ok (.tuple ((rs.map ruD).take n)) e := slE_eq h1 ret_at (intE_eq h2) sl_hi
  have a2 : slE (var i) (intE (FD.bin addD (var j) (FD.ret (.int 1)))) (FD.ret none) e = .ok (.tuple ((rs.map ruD).drop (n + 1))) e := slE_eq h1 (intE_eq (bin_eq h2 ret_at (by rfl : addD (.int (n : Nat)) (.int 1) = some (.int ((n + 1 : Nat) : Int))))) ret_at sl_lo
  refine bin_eq a1 a2 ?_
  rw [addD_tup, if_pos (few_le' (by rw [List.length_take, List.length_drop, List.length_map]; omega)), bo_without]
  rfl
theorem rng_nat (n : Nat) : rngDs 0 (n : Int) = (List.range n).map fun k => PyData.int (k : Nat) := by
  unfold rngDs
  rw [Int.sub_zero, Int.toNat_natCast]
  refine List.map_congr_left fun k _ => ?_
  rw [Int.zero_add]
theorem rng1_nat {n : Nat} (h : n ≤ 1000000) : rng1 [.int (n : Nat)] = some ((List.range n).map fun k => PyData.int (k : Nat)) := by
  show (if small (n : Int) then some (rngDs 0 (n : Int)) else none) = _
  rw [if_pos (by simp [FD.ret, FD.lif, FD.bnd, FD.var, FD.bin, FD.un, FD.tst, FD.andT, FD.orT, FD.notT, FD.andV, FD.orV, FD.notV, FD.ifE, FD.nilA, FD.consA, FD.tupE, FD.lstE, FD.seqS, FD.exprS, FD.retS, FD.retM, FD.ifS, FD.stoM, FD.setS, FD.setM, FD.gN, FD.gsNil, FD.gsCons, FD.gT, FD.goS, FD.asgS, FD.parS, FD.augS, FD.itE, FD.itA, FD.cbE, FD.slE, FD.intE, FD.arN, FD.arD, FD.arB, FD.callD, FD.callM, FD.slotsOf, FD.argM, FD.putB, FD.isIm, FD.endF, FD.backs, FD.args0, FD.defF, FD.chn, FD.lstM, FD.dtM, FD.dkM, FD.imM, FD.frzE, FD.has, FD.chk, FD.pk, FD.pkLen, FD.peekD, FD.pkL, FD.pkR, small]; omega), rng_nat]
theorem itA_eq {g : List D → Option (List D)} {f : EM (List D)} {e e1 : FD.Env} {d ds : List D} (h1 : f e = .ok d e1) (h2 : g d = some ds) : itA g f e = .ok ds e1 := by
  unfold itA
  rw [bnd_eq h1, h2]
  rfl
theorem lstE_eq {fs : EM (List D)} {e e1 : FD.Env} {ds : List D} (h : fs e = .ok ds e1) (hl : ds.length ≤ 1000) : lstE fs e = .ok (.list ds) e1 := by
  unfold lstE
  rw [bnd_eq h, if_pos (few_le' (by omega))]
  rfl
theorem tupE_eq {fs : EM (List D)} {e e1 : FD.Env} {ds : List D} (h : fs e = .ok ds e1) (hl : ds.length ≤ 1000) : tupE fs e = .ok (.tuple ds) e1 := by
  unfold tupE
  rw [bnd_eq h, if_pos (few_le' (by omega))]
  rfl
theorem filt_true {α : Type} (l : List α) : (l.filter fun _ => true) = l := by simp
theorem bools_map (bs : List Bool) : boolsOf (bs.map PyData.bool) = some bs := by
  induction bs with
  | nil => rfl
  | cons b bs ih =>
    show (boolsOf (bs.map PyData.bool)).map (b :: ·) = _
    rw [ih]
    rfl
theorem any_bools (bs : List Bool) : anyD [.list (bs.map PyData.bool)] = some (.bool (bs.any id)) := by
  show (boolsOf (bs.map PyData.bool)).map _ = _
  rw [bools_map]
  rfl
theorem all_bools (bs : List Bool) : allD [.list (bs.map PyData.bool)] = some (.bool (bs.all id)) := by
  show (boolsOf (bs.map PyData.bool)).map _ = _
  rw [bools_map]
  rfl
def onRu (f : Ru → Bool) : D → Bool
  | .tuple [.str a, .str l, .str b, .int p] => f ⟨(a.cps.getD 0 0), (l.cps.getD 0 0), (b.cps.getD 0 0), p⟩
  | _ => false
theorem onRu_at {f : Ru → Bool} {r : Ru} : onRu f (ruD r) = f r := rfl
theorem filter_ru {f : Ru → Bool} (rs : List Ru) : (rs.map ruD).filter (onRu f) = (rs.filter f).map ruD := by
  rw [List.filter_map]
  rfl
def onCa (f : Ca → Bool) : D → Bool
  | .tuple [.str a, .str l, .str b] => f ⟨(a.cps.getD 0 0), (l.cps.getD 0 0), (b.cps.getD 0 0)⟩
  | _ => false
theorem onCa_at {f : Ca → Bool} {c : Ca} : onCa f (caD c) = f c := rfl
end FDL
namespace FDL
open PySem L2 FD
def natsD (ns : List Nat) : D := .tuple (ns.map fun n => .int (n : Nat))
structure Gd (k W : Nat) (d : D) : Prop where
  lay : d.canLay0 = true
  shw : d.showable = true
  int : d.intsShort 13 = true
  dep : d.depth ≤ k
  wgt : d.weight ≤ W
theorem Gd.mono {k k' W W' : Nat} {d : D} (h : Gd k W d) (hk : k ≤ k') (hW : W ≤ W') : Gd k' W' d := ⟨h.lay, h.shw, h.int, Nat.le_trans h.dep hk, Nat.le_trans h.wgt hW⟩
theorem gd_all {k W : Nat} : ∀ {ds : List D}, (∀ d ∈ ds, Gd k W d) → PyData.canLayAll0 ds = true ∧ PyData.showableAll ds = true ∧ PyData.intsShortAll 13 ds = true ∧ PyData.depthAll ds ≤ k ∧ PyData.weightAll ds ≤ ds.length * (W + 1)
  | [], _ => ⟨by simp [FD.ret, FD.lif, FD.bnd, FD.var, FD.bin, FD.un, FD.tst, FD.andT, FD.orT, FD.notT, FD.andV, FD.orV, FD.notV, FD.ifE, FD.nilA, FD.consA, FD.tupE, FD.lstE, FD.seqS, FD.exprS, FD.retS, FD.retM, FD.ifS, FD.stoM, FD.setS, FD.setM, FD.gN, FD.gsNil, FD.gsCons, FD.gT, FD.goS, FD.asgS, FD.parS, FD.augS, FD.itE, FD.itA, FD.cbE, FD.slE, FD.intE, FD.arN, FD.arD, FD.arB, FD.callD, FD.callM, FD.slotsOf, FD.argM, FD.putB, FD.isIm, FD.endF, FD.backs, FD.args0, FD.defF, FD.chn, FD.lstM, FD.dtM, FD.dkM, FD.imM, FD.frzE, FD.has, FD.chk, FD.pk, FD.pkLen, FD.peekD, FD.pkL, FD.pkR, PyData.canLayAll0], by simp [FD.ret, FD.lif, FD.bnd, FD.var, FD.bin, FD.un, FD.tst, FD.andT, FD.orT, FD.notT, FD.andV, FD.orV, FD.notV, FD.ifE, FD.nilA, FD.consA, FD.tupE, FD.lstE, FD.seqS, FD.exprS, FD.retS, FD.retM, FD.ifS, FD.stoM, FD.setS, FD.setM, FD.gN, FD.gsNil, FD.gsCons, FD.gT, FD.goS, FD.asgS, FD.parS, FD.augS, FD.itE, FD.itA, FD.cbE, FD.slE, FD.intE, FD.arN, FD.arD, FD.arB, FD.callD, FD.callM, FD.slotsOf, FD.argM, FD.putB, FD.isIm, FD.endF, FD.backs, FD.args0, FD.defF, FD.chn, FD.lstM, FD.dtM, FD.dkM, FD.imM, FD.frzE, FD.has, FD.chk, FD.pk, FD.pkLen, FD.peekD, FD.pkL, FD.pkR, PyData.showableAll], by simp [FD.ret, FD.lif, FD.bnd, FD.var, FD.bin, FD.un, FD.tst, FD.andT, FD.orT, FD.notT, FD.andV, FD.orV, FD.notV, FD.ifE, FD.nilA, FD.consA, FD.tupE, FD.lstE, FD.seqS, FD.exprS, FD.retS, FD.retM, FD.ifS, FD.stoM, FD.setS, FD.setM, FD.gN, FD.gsNil, FD.gsCons, FD.gT, FD.goS, FD.asgS, FD.parS, FD.augS, FD.itE, FD.itA, FD.cbE, FD.slE, FD.intE, FD.arN, FD.arD, FD.arB, FD.callD, FD.callM, FD.slotsOf, FD.argM, FD.putB, FD.isIm, FD.endF, FD.backs, FD.args0, FD.defF, FD.chn, FD.lstM, FD.dtM, FD.dkM, FD.imM, FD.frzE, FD.has, FD.chk, FD.pk, FD.pkLen, FD.peekD, FD.pkL, FD.pkR, PyData.intsShortAll], by simp [FD.ret, FD.lif, FD.bnd, FD.var, FD.bin, FD.un, FD.tst, FD.andT, FD.orT, FD.notT, FD.andV, FD.orV, FD.notV, FD.ifE, FD.nilA, FD.consA, FD.tupE, FD.lstE, FD.seqS, FD.exprS, FD.retS, FD.retM, FD.ifS, FD.stoM, FD.setS, FD.setM, FD.gN, FD.gsNil, FD.gsCons, FD.gT, FD.goS, FD.asgS, FD.parS, FD.augS, FD.itE, FD.itA, FD.cbE, FD.slE, FD.intE, FD.arN, FD.arD, FD.arB, FD.callD, FD.callM, FD.slotsOf, FD.argM, FD.putB, FD.isIm, FD.endF, FD.backs, FD.args0, FD.defF, FD.chn, FD.lstM, FD.dtM, FD.dkM, FD.imM, FD.frzE, FD.has, FD.chk, FD.pk, FD.pkLen, FD.peekD, FD.pkL, FD.pkR, PyData.depthAll], by simp [FD.ret, FD.lif, FD.bnd, FD.var, FD.bin, FD.un, FD.tst, FD.andT, FD.orT, FD.notT, FD.andV, FD.orV, FD.notV, FD.ifE, FD.nilA, FD.consA, FD.tupE, FD.lstE, FD.seqS, FD.exprS, FD.retS, FD.retM, FD.ifS, FD.stoM, FD.setS, FD.setM, FD.gN, FD.gsNil, FD.gsCons, FD.gT, FD.goS, FD.asgS, FD.parS, FD.augS, FD.itE, FD.itA, FD.cbE, FD.slE, FD.intE, FD.arN, FD.arD, FD.arB, FD.callD, FD.callM, FD.slotsOf, FD.argM, FD.putB, FD.isIm, FD.endF, FD.backs, FD.args0, FD.defF, FD.chn, FD.lstM, FD.dtM, FD.dkM, FD.imM, FD.frzE, FD.has, FD.chk, FD.pk, FD.pkLen, FD.peekD, FD.pkL, FD.pkR, PyData.weightAll]⟩
  | d :: ds, h => by
    obtain ⟨h1, h2, h3, h4, h5⟩ := gd_all (ds := ds) fun x hx => h x (List.mem_cons_of_mem _ hx)
    have g := h d List.mem_cons_self
    refine ⟨by simp [FD.ret, FD.lif, FD.bnd, FD.var, FD.bin, FD.un, FD.tst, FD.andT, FD.orT, FD.notT, FD.andV, FD.orV, FD.notV, FD.ifE, FD.nilA, FD.consA, FD.tupE, FD.lstE, FD.seqS, FD.exprS, FD.retS, FD.retM, FD.ifS, FD.stoM, FD.setS, FD.setM, FD.gN, FD.gsNil, FD.gsCons, FD.gT, FD.goS, FD.asgS, FD.parS, FD.augS, FD.itE, FD.itA, FD.cbE, FD.slE, FD.intE, FD.arN, FD.arD, FD.arB, FD.callD, FD.callM, FD.slotsOf, FD.argM, FD.putB, FD.isIm, FD.endF, FD.backs, FD.args0, FD.defF, FD.chn, FD.lstM, FD.dtM, FD.dkM, FD.imM, FD.frzE, FD.has, FD.chk, FD.pk, FD.pkLen, FD.peekD, FD.pkL, FD.pkR, PyData.canLayAll0, g.lay, h1], by simp [FD.ret, FD.lif, FD.bnd, FD.var, FD.bin, FD.un, FD.tst, FD.andT, FD.orT, FD.notT, FD.andV, FD.orV, FD.notV, FD.ifE, FD.nilA, FD.consA, FD.tupE, FD.lstE, FD.seqS, FD.exprS, FD.retS, FD.retM, FD.ifS, FD.stoM, FD.setS, FD.setM, FD.gN, FD.gsNil, FD.gsCons, FD.gT, FD.goS, FD.asgS, FD.parS, FD.augS, FD.itE, FD.itA, FD.cbE, FD.slE, FD.intE, FD.arN, FD.arD, FD.arB, FD.callD, FD.callM, FD.slotsOf, FD.argM, FD.putB, FD.isIm, FD.endF, FD.backs, FD.args0, FD.defF, FD.chn, FD.lstM, FD.dtM, FD.dkM, FD.imM, FD.frzE, FD.has, FD.chk, FD.pk, FD.pkLen, FD.peekD, FD.pkL, FD.pkR, PyData.showableAll, g.shw, h2], by simp [FD.ret, FD.lif, FD.bnd, FD.var, FD.bin, FD.un, FD.tst, FD.andT, FD.orT, FD.notT, FD.andV, FD.orV, FD.notV, FD.ifE, FD.nilA, FD.consA, FD.tupE, FD.lstE, FD.seqS, FD.exprS, FD.retS, FD.retM, FD.ifS, FD.stoM, FD.setS, FD.setM, FD.gN, FD.gsNil, FD.gsCons, FD.gT, FD.goS, FD.asgS, FD.parS, FD.augS, FD.itE, FD.itA, FD.cbE, FD.slE, FD.intE, FD.arN, FD.arD, FD.arB, FD.callD, FD.callM, FD.slotsOf, FD.argM, FD.putB, FD.isIm, FD.endF, FD.backs, FD.args0, FD.defF, FD.chn, FD.lstM, FD.dtM, FD.dkM, FD.imM, FD.frzE, FD.has, FD.chk, FD.pk, FD.pkLen, FD.peekD, FD.pkL, FD.pkR, PyData.intsShortAll, g.int, h3], ?_, ?_⟩
    · simp only [PyData.depthAll]
      exact Nat.max_le.mpr ⟨g.dep, h4⟩
    · simp only [PyData.weightAll, List.length_cons]
      have := g.wgt
      rw [Nat.add_mul, Nat.one_mul]
      omega
theorem gd_list {k W : Nat} {ds : List D} (h : ∀ d ∈ ds, Gd k W d) : Gd (k + 1) (ds.length * (W + 1)) (.list ds) := by
  obtain ⟨h1, h2, h3, h4, h5⟩ := gd_all h
  exact ⟨by simpa [PyData.canLay0] using h1, by simpa [PyData.showable] using h2, by simpa [PyData.intsShort] using h3, by simp only [PyData.depth]; omega, by simpa [PyData.weight] using h5⟩
theorem gd_tup {k W : Nat} {ds : List D} (h : ∀ d ∈ ds, Gd k W d) : Gd (k + 1) (ds.length * (W + 1)) (.tuple ds) := by
  obtain ⟨h1, h2, h3, h4, h5⟩ := gd_all h
  exact ⟨by simpa [PyData.canLay0] using h1, by simpa [PyData.showable] using h2, by simpa [PyData.intsShort] using h3, by simp only [PyData.depth]; omega, by simpa [PyData.weight] using h5⟩
def intOk (n : Nat) : Bool := (PyData.int (n : Nat)).canLay0 && (PyData.int (n : Nat)).showable && (PyData.int (n : Nat)).intsShort 13 && decide ((PyData.int (n : Nat)).weight ≤ 10)
theorem ints_ok : ((List.range 1000).all intOk) = true := by decide +kernel
theorem gd_nat {n : Nat} (h : n < 1000) : Gd 0 10 (.int (n : Nat)) := by
  have := (List.all_eq_true.mp ints_ok) n (List.mem_range.mpr h)
  simp only [intOk, Bool.and_eq_true, decide_eq_true_eq] at this
  exact ⟨this.1.1.1, this.1.1.2, this.1.2, by simp [FD.ret, FD.lif, FD.bnd, FD.var, FD.bin, FD.un, FD.tst, FD.andT, FD.orT, FD.notT, FD.andV, FD.orV, FD.notV, FD.ifE, FD.nilA, FD.consA, FD.tupE, FD.lstE, FD.seqS, FD.exprS, FD.retS, FD.retM, FD.ifS, FD.stoM, FD.setS, FD.setM, FD.gN, FD.gsNil, FD.gsCons, FD.gT, FD.goS, FD.asgS, FD.parS, FD.augS, FD.itE, FD.itA, FD.cbE, FD.slE, FD.intE, FD.arN, FD.arD, FD.arB, FD.callD, FD.callM, FD.slotsOf, FD.argM, FD.putB, FD.isIm, FD.endF, FD.backs, FD.args0, FD.defF, FD.chn, FD.lstM, FD.dtM, FD.dkM, FD.imM, FD.frzE, FD.has, FD.chk, FD.pk, FD.pkLen, FD.peekD, FD.pkL, FD.pkR, PyData.depth], this.2⟩
theorem gd_sg {c : Nat} (h : c < 128) : Gd 0 10 (.str (sg c)) := by
  refine ⟨?_, by simp [FD.ret, FD.lif, FD.bnd, FD.var, FD.bin, FD.un, FD.tst, FD.andT, FD.orT, FD.notT, FD.andV, FD.orV, FD.notV, FD.ifE, FD.nilA, FD.consA, FD.tupE, FD.lstE, FD.seqS, FD.exprS, FD.retS, FD.retM, FD.ifS, FD.stoM, FD.setS, FD.setM, FD.gN, FD.gsNil, FD.gsCons, FD.gT, FD.goS, FD.asgS, FD.parS, FD.augS, FD.itE, FD.itA, FD.cbE, FD.slE, FD.intE, FD.arN, FD.arD, FD.arB, FD.callD, FD.callM, FD.slotsOf, FD.argM, FD.putB, FD.isIm, FD.endF, FD.backs, FD.args0, FD.defF, FD.chn, FD.lstM, FD.dtM, FD.dkM, FD.imM, FD.frzE, FD.has, FD.chk, FD.pk, FD.pkLen, FD.peekD, FD.pkL, FD.pkR, PyData.showable], by simp [FD.ret, FD.lif, FD.bnd, FD.var, FD.bin, FD.un, FD.tst, FD.andT, FD.orT, FD.notT, FD.andV, FD.orV, FD.notV, FD.ifE, FD.nilA, FD.consA, FD.tupE, FD.lstE, FD.seqS, FD.exprS, FD.retS, FD.retM, FD.ifS, FD.stoM, FD.setS, FD.setM, FD.gN, FD.gsNil, FD.gsCons, FD.gT, FD.goS, FD.asgS, FD.parS, FD.augS, FD.itE, FD.itA, FD.cbE, FD.slE, FD.intE, FD.arN, FD.arD, FD.arB, FD.callD, FD.callM, FD.slotsOf, FD.argM, FD.putB, FD.isIm, FD.endF, FD.backs, FD.args0, FD.defF, FD.chn, FD.lstM, FD.dtM, FD.dkM, FD.imM, FD.frzE, FD.has, FD.chk, FD.pk, FD.pkLen, FD.peekD, FD.pkL, FD.pkR, PyData.intsShort], by simp [FD.ret, FD.lif, FD.bnd, FD.var, FD.bin, FD.un, FD.tst, FD.andT, FD.orT, FD.notT, FD.andV, FD.orV, FD.notV, FD.ifE, FD.nilA, FD.consA, FD.tupE, FD.lstE, FD.seqS, FD.exprS, FD.retS, FD.retM, FD.ifS, FD.stoM, FD.setS, FD.setM, FD.gN, FD.gsNil, FD.gsCons, FD.gT, FD.goS, FD.asgS, FD.parS, FD.augS, FD.itE, FD.itA, FD.cbE, FD.slE, FD.intE, FD.arN, FD.arD, FD.arB, FD.callD, FD.callM, FD.slotsOf, FD.argM, FD.putB, FD.isIm, FD.endF, FD.backs, FD.args0, FD.defF, FD.chn, FD.lstM, FD.dtM, FD.dkM, FD.imM, FD.frzE, FD.has, FD.chk, FD.pk, FD.pkLen, FD.peekD, FD.pkL, FD.pkR, PyData.depth], by simp [FD.ret, FD.lif, FD.bnd, FD.var, FD.bin, FD.un, FD.tst, FD.andT, FD.orT, FD.notT, FD.andV, FD.orV, FD.notV, FD.ifE, FD.nilA, FD.consA, FD.tupE, FD.lstE, FD.seqS, FD.exprS, FD.retS, FD.retM, FD.ifS, FD.stoM, FD.setS, FD.setM, FD.gN, FD.gsNil, FD.gsCons, FD.gT, FD.goS, FD.asgS, FD.parS, FD.augS, FD.itE, FD.itA, FD.cbE, FD.slE, FD.intE, FD.arN, FD.arD, FD.arB, FD.callD, FD.callM, FD.slotsOf, FD.argM, FD.putB, FD.isIm, FD.endF, FD.backs, FD.args0, FD.defF, FD.chn, FD.lstM, FD.dtM, FD.dkM, FD.imM, FD.frzE, FD.has, FD.chk, FD.pk, FD.pkLen, FD.peekD, FD.pkL, FD.pkR, PyData.weight, sg]⟩
  simp [FD.ret, FD.lif, FD.bnd, FD.var, FD.bin, FD.un, FD.tst, FD.andT, FD.orT, FD.notT, FD.andV, FD.orV, FD.notV, FD.ifE, FD.nilA, FD.consA, FD.tupE, FD.lstE, FD.seqS, FD.exprS, FD.retS, FD.retM, FD.ifS, FD.stoM, FD.setS, FD.setM, FD.gN, FD.gsNil, FD.gsCons, FD.gT, FD.goS, FD.asgS, FD.parS, FD.augS, FD.itE, FD.itA, FD.cbE, FD.slE, FD.intE, FD.arN, FD.arD, FD.arB, FD.callD, FD.callM, FD.slotsOf, FD.argM, FD.putB, FD.isIm, FD.endF, FD.backs, FD.args0, FD.defF, FD.chn, FD.lstM, FD.dtM, FD.dkM, FD.imM, FD.frzE, FD.has, FD.chk, FD.pk, FD.pkLen, FD.peekD, FD.pkL, FD.pkR, PyData.canLay0, PyData.strOk, sg]
  omega
theorem rep_of {k W : Nat} {d : D} (h : Gd k W d) (hs : isSq d = true) (hk : k ≤ 40) (hW : W ≤ 2 ^ 20) : reprD [d] = some (.str d.shown) := by
  have : repOk d = true := by
    unfold repOk
    rw [hs, h.lay, h.shw, h.int, decide_eq_true (Nat.le_trans h.dep hk), decide_eq_true (Nat.le_trans h.wgt hW)]
    rfl
  show (if repOk d then some (PyData.str d.shown) else none) = _
  rw [if_pos this]
theorem let_lt {c : Nat} (h : c ∈ codes) : c < 128 := by
  have : ∀ c ∈ codes, c < 128 := by decide
  exact this c h
theorem gd_ru {r : Ru} (h : okR r = true) : Gd 1 44 (ruD r) := by
  simp only [okR, Bool.and_eq_true, decide_eq_true_eq] at h
  obtain ⟨⟨⟨h1, h2⟩, h3⟩, h4, h5⟩ := h
  have g := gd_tup (k := 0) (W := 10) (ds := [.str (sg r.a), .str (sg r.l), .str (sg r.b), .int r.p]) ?_
  · exact g
  intro d hd
  simp only [List.mem_cons, List.not_mem_nil, or_false] at hd
  rcases hd with z | z | z | z
  · rw [z]; exact gd_sg (let_lt (codes_A h1))
  · rw [z]; exact gd_sg (let_lt (codes_let h2))
  · rw [z]; exact gd_sg (let_lt (codes_B h3))
  · rw [z]
    obtain ⟨n, hn⟩ := Int.eq_ofNat_of_zero_le h4
    rw [hn]
    exact gd_nat (by omega)
theorem Gd.shp {k W : Nat} {d : D} (h : Gd k W d) (hk : k ≤ 64) : SeqAt.shaped d = true := by
  unfold SeqAt.shaped
  rw [h.lay, decide_eq_true (Nat.le_trans h.dep hk)]
  rfl
theorem ix_bo {rs : List Ru} {n : Nat} {r : Ru} (hr : rs[n]? = some r) : ixA (boD rs) (.int (n : Nat)) = some (ruD r) := by
  show atI (rs.map ruD) (n : Int) = _
  have hn : n < rs.length := (List.getElem?_eq_some_iff.mp hr).1
  unfold atI ixN
  rw [if_pos (by omega), if_pos (by rw [List.length_map]; omega)]
  show (rs.map ruD)[(n : Int).toNat]? = _
  rw [Int.toNat_natCast, List.getElem?_map, hr]
  rfl
end FDL
namespace FDL
open PySem L2 FD
theorem mem_letters {x : Nat} : x ∈ letters ↔ isLet x = true := by
  unfold letters isLet
  rw [List.mem_map, Bool.and_eq_true, decide_eq_true_eq, decide_eq_true_eq]
  constructor
  · rintro ⟨k, hk, rfl⟩
    rw [List.mem_range] at hk
    omega
  · intro h
    exact ⟨x - 97, List.mem_range.mpr (by omega), by omega⟩
theorem side_own {s e x : Nat} (hs : isLet s = true ∨ s = e ∨ s = 42) (he : e ≠ 42) (h : x ∈ signsF s e) : x ≠ 42 ∧ (x = e ∨ isLet x = true) := by
  unfold signsF at h
  have nl42 : isLet 42 = false := by decide
  split at h
  · rcases List.mem_cons.mp h with z | z
    · exact ⟨by rw [z]; exact he, .inl z⟩
    · rw [mem_letters] at z
      exact ⟨fun q => (by rw [q, nl42] at z; cases z), .inr z⟩
  · rename_i h42
    rw [List.mem_singleton] at h
    subst h
    rcases hs with z | z | z
    · exact ⟨h42, .inr z⟩
    · exact ⟨h42, .inl z⟩
    · exact absurd z h42
theorem side_iff {s e x : Nat} (hx : x ≠ 42) (hx' : x = e ∨ isLet x = true) : x ∈ signsF s e ↔ (x == s || 42 == s) = true := by
  unfold signsF
  rw [Bool.or_eq_true, beq_iff_eq, beq_iff_eq]
  by_cases h : s = 42
  · rw [if_pos h]
    refine ⟨fun _ => .inr h.symm, fun _ => ?_⟩
    rcases hx' with z | z
    · rw [z]; exact List.mem_cons_self
    · exact List.mem_cons_of_mem _ (mem_letters.mpr z)
  · rw [if_neg h, List.mem_singleton]
    refine ⟨fun z => .inl z, fun z => z.elim id fun q => absurd q.symm h⟩
theorem mem_cases {r : Ru} {c : Ca} : c ∈ casesOf r ↔ c.a ∈ signsF r.a 60 ∧ c.l = r.l ∧ c.b ∈ signsF r.b 62 := by
  unfold casesOf
  rw [List.mem_flatMap]
  constructor
  · rintro ⟨x, hx, h⟩
    obtain ⟨y, hy, rfl⟩ := List.mem_map.mp h
    exact ⟨hx, rfl, hy⟩
  · rintro ⟨h1, h2, h3⟩
    exact ⟨c.a, h1, List.mem_map.mpr ⟨c.b, h3, by obtain ⟨a, l, b⟩ := c; simp at h2; subst h2; rfl⟩⟩
theorem ok_sides {r : Ru} (h : okR r = true) : (isLet r.a = true ∨ r.a = 60 ∨ r.a = 42) ∧ (isLet r.b = true ∨ r.b = 62 ∨ r.b = 42) := by
  simp only [okR, okA, okB, Bool.and_eq_true, Bool.or_eq_true, beq_iff_eq] at h
  obtain ⟨⟨⟨h1, _⟩, h3⟩, _⟩ := h
  exact ⟨h1.imp id fun z => z.imp Eq.symm Eq.symm, h3.imp id fun z => z.imp Eq.symm Eq.symm⟩
theorem fits_iff {r o : Ru} {c : Ca} (hr : okR r = true) (hc : c ∈ casesOf r) : fits o c = true ↔ c ∈ casesOf o := by
  obtain ⟨h1, h2, h3⟩ := mem_cases.mp hc
  obtain ⟨s1, s2⟩ := ok_sides hr
  obtain ⟨a1, a2⟩ := side_own s1 (by decide) h1
  obtain ⟨b1, b2⟩ := side_own s2 (by decide) h3
  rw [mem_cases, side_iff a1 a2, side_iff b1 b2]
  unfold fits
  rw [Bool.and_eq_true, Bool.and_eq_true, beq_iff_eq]
  exact ⟨fun ⟨x, y, z⟩ => ⟨y, x.symm, z⟩, fun ⟨x, y, z⟩ => ⟨y.symm, x, z⟩⟩
theorem best_eq_some {rs : List Ru} {c : Ca} {v : Int} (h1 : ∃ r ∈ rs, c ∈ casesOf r ∧ r.p = v) (h2 : ∀ r ∈ rs, c ∈ casesOf r → v ≤ r.p) : best rs c = some v := by
  cases h : best rs c with
  | none =>
    obtain ⟨r, hr, hc, _⟩ := h1
    exact absurd hc (best_none h r hr)
  | some w =>
    obtain ⟨⟨r, hr, hc, hp⟩, hm⟩ := best_some h
    obtain ⟨r', hr', hc', hp'⟩ := h1
    have a := h2 r hr hc
    have b := hm r' hr' hc'
    congr 1
    omega
theorem best_eq_none {rs : List Ru} {c : Ca} (h : ∀ r ∈ rs, c ∉ casesOf r) : best rs c = none := by
  cases q : best rs c with
  | none => rfl
  | some w =>
    obtain ⟨⟨r, hr, hc, _⟩, _⟩ := best_some q
    exact absurd hc (h r hr)
theorem same_iff (rs rs' : List Ru) : sameT (table rs) (table rs') = true ↔ ∀ c, best rs c = best rs' c := by
  refine (sameT_iff (show ((table rs).map (·.1)).Nodup from table_nodup rs [] List.nodup_nil) (show ((table rs').map (·.1)).Nodup from table_nodup rs' [] List.nodup_nil)).trans ?_
  exact forall_congr' fun c => by rw [look_table, look_table]
end FDL
namespace FDL
open PySem L2 FD
theorem modD_int {i j : Int} (h : 0 < j) : modD (.int i) (.int j) = some (.int (i % j)) := by
  show (if decide (0 < j) then some (PyData.int (i % j)) else none) = _
  rw [if_pos (decide_eq_true h)]
theorem fdvD_int {i j : Int} (h : 0 < j) (h2 : j < 1073741824) : fdvD (.int i) (.int j) = some (.int (i / j)) := by
  show (if (decide (0 < j) && decide (j < 1073741824)) then some (PyData.int (i / j)) else none) = _
  rw [if_pos (by simp [FD.ret, FD.lif, FD.bnd, FD.var, FD.bin, FD.un, FD.tst, FD.andT, FD.orT, FD.notT, FD.andV, FD.orV, FD.notV, FD.ifE, FD.nilA, FD.consA, FD.tupE, FD.lstE, FD.seqS, FD.exprS, FD.retS, FD.retM, FD.ifS, FD.stoM, FD.setS, FD.setM, FD.gN, FD.gsNil, FD.gsCons, FD.gT, FD.goS, FD.asgS, FD.parS, FD.augS, FD.itE, FD.itA, FD.cbE, FD.slE, FD.intE, FD.arN, FD.arD, FD.arB, FD.callD, FD.callM, FD.slotsOf, FD.argM, FD.putB, FD.isIm, FD.endF, FD.backs, FD.args0, FD.defF, FD.chn, FD.lstM, FD.dtM, FD.dkM, FD.imM, FD.frzE, FD.has, FD.chk, FD.pk, FD.pkLen, FD.peekD, FD.pkL, FD.pkR, h, h2])]
theorem mulD_r {i j : Int} (h1 : -(2 ^ 64) < j) (h2 : j < 2 ^ 64) : mulD (.int i) (.int j) = some (.int (i * j)) := by
  show (if ((decide (-(2 ^ 64) < i) && decide (i < 2 ^ 64)) || (decide (-(2 ^ 64) < j) && decide (j < 2 ^ 64))) then some (PyData.int (i * j)) else none) = _
  rw [if_pos (by rw [decide_eq_true h1, decide_eq_true h2]; simp)]
theorem mixed_at {a k : Int} (h0 : 0 ≤ k) (h1 : k ≤ 1000000) : ∃ r : Int, 0 ≤ r ∧ r < 2147483629 ∧ f_law_mixed [.im (.int a), .im (.int k)] = .ok (.im (.int r)) [.im (.int a), .im (.int k)] := by
  let n1 : Int := (a % 2147483647 + 7919 * k * k + 31 * k) * 48271 % 2147483647
  refine ⟨n1 * (69621 + 2 * k) % 2147483629, Int.emod_nonneg _ (by decide), Int.emod_lt_of_pos _ (by decide), ?_⟩
  let e : FD.Env := [some (.im (.int a)), some (.im (.int k))]
  have m1 : FD.bin mulD (FD.bin mulD (FD.ret (.int 7919)) (var 1)) (var 1) e = .ok (.int (7919 * k * k)) e := bin_eq (bin_eq ret_at (by rfl) (mulD_r (by omega) (by omega))) (by rfl) (mulD_r (by omega) (by omega))
  have m2 : FD.bin mulD (FD.ret (.int 31)) (var 1) e = .ok (.int (31 * k)) e := bin_eq ret_at (by rfl) (mulD_r (by omega) (by omega))
  have m3 : FD.bin modD (var 0) (FD.ret (.int 2147483647)) e = .ok (.int (a % 2147483647)) e := bin_eq (by rfl) ret_at (modD_int (by decide))
  have s1 : setS 0 (FD.bin modD (FD.bin mulD (FD.bin addD (FD.bin addD (FD.bin modD (var 0) (FD.ret (.int 2147483647))) (FD.bin mulD (FD.bin mulD (FD.ret (.int 7919)) (var 1)) (var 1))) (FD.bin mulD (FD.ret (.int 31)) (var 1))) (FD.ret (.int 48271))) (FD.ret (.int 2147483647))) e = .ok .nxt [some (.im (.int n1)), some (.im (.int k))] :=
    setS_eq (e1 := e) (bin_eq (bin_eq (bin_eq (bin_eq m3 m1 addD_int) m2 addD_int) ret_at (mulD_r (by decide) (by decide))) ret_at (modD_int (by decide))) (by simp [FD.ret, FD.lif, FD.bnd, FD.var, FD.bin, FD.un, FD.tst, FD.andT, FD.orT, FD.notT, FD.andV, FD.orV, FD.notV, FD.ifE, FD.nilA, FD.consA, FD.tupE, FD.lstE, FD.seqS, FD.exprS, FD.retS, FD.retM, FD.ifS, FD.stoM, FD.setS, FD.setM, FD.gN, FD.gsNil, FD.gsCons, FD.gT, FD.goS, FD.asgS, FD.parS, FD.augS, FD.itE, FD.itA, FD.cbE, FD.slE, FD.intE, FD.arN, FD.arD, FD.arB, FD.callD, FD.callM, FD.slotsOf, FD.argM, FD.putB, FD.isIm, FD.endF, FD.backs, FD.args0, FD.defF, FD.chn, FD.lstM, FD.dtM, FD.dkM, FD.imM, FD.frzE, FD.has, FD.chk, FD.pk, FD.pkLen, FD.peekD, FD.pkL, FD.pkR, e])
  have b1 : g_law_mixed e = .ok (.ret (.im (.int (n1 * (69621 + 2 * k) % 2147483629)))) [some (.im (.int n1)), some (.im (.int k))] := by
    unfold g_law_mixed
    rw [seqS_nxt s1]
    exact ret_eq (bin_eq (bin_eq (by rfl) (bin_eq ret_at (bin_eq ret_at (by rfl) (mulD_r (by omega) (by omega))) addD_int) (mulD_r (by omega) (by omega))) ret_at (modD_int (by decide)))
  exact run2 (n := 0) b1
def stM (a b c : Int) : M := .ls [.im (.int a), .im (.int b), .im (.int c)]
theorem store3_1 {a b c v : Int} {x y : Option M} : storeM 0 (.int 1) (.int v) [some (stM a b c), x, y] = .ok .nxt [some (stM a v c), x, y] := rfl
theorem store3_0 {a b c v : Int} {x y : Option M} : storeM 0 (.int 0) (.int v) [some (stM a b c), x, y] = .ok .nxt [some (stM v b c), x, y] := rfl
theorem pk_0 {a b c : Int} {x y : Option M} : pkIxA 0 (FD.ret (.int 0)) [some (stM a b c), x, y] = .ok (.int a) [some (stM a b c), x, y] := rfl
theorem pk_1 {a b c : Int} {x y : Option M} : pkIxA 0 (FD.ret (.int 1)) [some (stM a b c), x, y] = .ok (.int b) [some (stM a b c), x, y] := rfl
theorem pk_2 {a b c : Int} {x y : Option M} : pkIxA 0 (FD.ret (.int 2)) [some (stM a b c), x, y] = .ok (.int c) [some (stM a b c), x, y] := rfl
theorem storeS_eq {i : Nat} {fk fv : EM D} {e e1 e2 e3 : FD.Env} {k v : D} (h1 : fv e = .ok v e1) (hc : has i e1 = true) (h2 : fk e1 = .ok k e2) (h3 : storeM i k v e2 = .ok .nxt e3) : storeS i fk fv e = .ok .nxt e3 := by
  unfold storeS
  rw [bnd_eq h1]
  unfold chk
  rw [if_pos hc, bnd_eq h2]
  exact h3
theorem take_at {a b c m : Int} (hm : 0 < m) (hm2 : m < 1073741824) (hb : 0 ≤ b) (hb2 : b < 900000) : ∃ r a' : Int, 0 ≤ r ∧ r < m ∧ f_law_take [stM a b c, .im (.int m)] = .ok (.im (.int r)) [stM a' (b + 1) c, .im (.int m)] := by
  let e1 : FD.Env := [some (stM a (b + 1) c), some (.im (.int m)), none]
  have s1 : storeS 0 (FD.ret (.int 1)) (FD.bin addD (pkIxA 0 (FD.ret (.int 1))) (FD.ret (.int 1))) [some (stM a b c), some (.im (.int m)), none] = .ok .nxt e1 :=
    storeS_eq (e1 := [some (stM a b c), some (.im (.int m)), none]) (e2 := [some (stM a b c), some (.im (.int m)), none]) (bin_eq pk_1 ret_at addD_int) (by rfl) ret_at store3_1
  have t1 : tst (FD.bin eqA (pkIxA 0 (FD.ret (.int 0))) (FD.ret (.int 0))) e1 = .ok (a == 0) e1 := tst_eq (bin_eq pk_0 ret_at eqA_int)
  by_cases ha : a = 0
  · subst ha
    obtain ⟨x, hx0, hx1, hx⟩ := mixed_at (a := c) (k := b + 1) (by omega) (by omega)
    obtain ⟨y, hy0, hy1, hy⟩ := mixed_at (a := x) (k := 7) (by decide) (by decide)
    refine ⟨y % m, 0, Int.emod_nonneg _ (by omega), Int.emod_lt_of_pos _ hm, ?_⟩
    have b1 : g_law_take [some (stM 0 b c), some (.im (.int m)), none] = .ok (.ret (.im (.int (y % m)))) e1 := by
      unfold g_law_take
      rw [seqS_nxt s1]
      rw [seqS_ret (m := .im (.int (y % m))) (e' := e1) (by
        rw [ifS_eq t1]
        exact ret_eq (bin_eq (call2 (call2 pk_2 pk_1 hx (by rfl)) ret_at hy (by rfl)) (by rfl) (modD_int hm)))]
    have u : f_law_take [stM 0 b c, .im (.int m)] = endF [0] [stM 0 b c, .im (.int m)] (g_law_take [some (stM 0 b c), some (.im (.int m)), none]) := rfl
    rw [u, b1]
    rfl
  · have t2 : (a == 0) = false := by simpa using ha
    rw [t2] at t1
    refine ⟨a % m, a / m, Int.emod_nonneg _ (by omega), Int.emod_lt_of_pos _ hm, ?_⟩
    have b1 : g_law_take [some (stM a b c), some (.im (.int m)), none] = .ok (.ret (.im (.int (a % m)))) [some (stM (a / m) (b + 1) c), some (.im (.int m)), some (.im (.int (a % m)))] := by
      unfold g_law_take
      rw [seqS_nxt s1]
      rw [seqS_nxt (e' := e1) (by rw [ifS_eq t1]; rfl)]
      rw [seqS_nxt (e' := [some (stM a (b + 1) c), some (.im (.int m)), some (.im (.int (a % m)))]) (setS_eq (e1 := e1) (bin_eq pk_0 (by rfl) (modD_int hm)) (by simp [FD.ret, FD.lif, FD.bnd, FD.var, FD.bin, FD.un, FD.tst, FD.andT, FD.orT, FD.notT, FD.andV, FD.orV, FD.notV, FD.ifE, FD.nilA, FD.consA, FD.tupE, FD.lstE, FD.seqS, FD.exprS, FD.retS, FD.retM, FD.ifS, FD.stoM, FD.setS, FD.setM, FD.gN, FD.gsNil, FD.gsCons, FD.gT, FD.goS, FD.asgS, FD.parS, FD.augS, FD.itE, FD.itA, FD.cbE, FD.slE, FD.intE, FD.arN, FD.arD, FD.arB, FD.callD, FD.callM, FD.slotsOf, FD.argM, FD.putB, FD.isIm, FD.endF, FD.backs, FD.args0, FD.defF, FD.chn, FD.lstM, FD.dtM, FD.dkM, FD.imM, FD.frzE, FD.has, FD.chk, FD.pk, FD.pkLen, FD.peekD, FD.pkL, FD.pkR, e1]))]
      rw [seqS_nxt (storeS_eq (e1 := [some (stM a (b + 1) c), some (.im (.int m)), some (.im (.int (a % m)))]) (e2 := [some (stM a (b + 1) c), some (.im (.int m)), some (.im (.int (a % m)))]) (bin_eq pk_0 (by rfl) (fdvD_int hm hm2)) (by rfl) ret_at store3_0)]
      exact ret_eq (by rfl)
    have u : f_law_take [stM a b c, .im (.int m)] = endF [0] [stM a b c, .im (.int m)] (g_law_take [some (stM a b c), some (.im (.int m)), none]) := rfl
    rw [u, b1]
    rfl
end FDL
namespace FDL
open PySem L2 FD
theorem callB1 {Fs : List M → FOut} {f : EM D} {e e1 : FD.Env} {s : Nat} {d r : D} {m m0 m1 : M} (h0 : e[s]? = some (some m)) (h1 : f e = .ok d e1) (hs : e1[s]? = some (some m0)) (h2 : Fs [m0, .im d] = .ok (.im r) [m1, .im d]) : callD Fs (arB s (arD f arN)) e = .ok r (e1.set s (some m1)) := by
  have q : callM Fs (arB s (arD f arN)) e = .ok (.im r) (e1.set s (some m1)) := by
    simp [FD.ret, FD.lif, FD.bnd, FD.var, FD.bin, FD.un, FD.tst, FD.andT, FD.orT, FD.notT, FD.andV, FD.orV, FD.notV, FD.ifE, FD.nilA, FD.consA, FD.tupE, FD.lstE, FD.seqS, FD.exprS, FD.retS, FD.retM, FD.ifS, FD.stoM, FD.setS, FD.setM, FD.gN, FD.gsNil, FD.gsCons, FD.gT, FD.goS, FD.asgS, FD.parS, FD.augS, FD.itE, FD.itA, FD.cbE, FD.slE, FD.intE, FD.arN, FD.arD, FD.arB, FD.callD, FD.callM, FD.slotsOf, FD.argM, FD.putB, FD.isIm, FD.endF, FD.backs, FD.args0, FD.defF, FD.chn, FD.lstM, FD.dtM, FD.dkM, FD.imM, FD.frzE, FD.has, FD.chk, FD.pk, FD.pkLen, FD.peekD, FD.pkL, FD.pkR, callM, arB, arD, arN, bnd, h0, h1, hs, h2]
  unfold callD
  rw [bnd_eq q]
  rfl
theorem callB2 {Fs : List M → FOut} {f g : EM D} {e e1 e2 : FD.Env} {s : Nat} {d d' r : D} {m m0 m1 : M} (h0 : e[s]? = some (some m)) (h1 : f e = .ok d e1) (h1' : g e1 = .ok d' e2) (hs : e2[s]? = some (some m0)) (h2 : Fs [m0, .im d, .im d'] = .ok (.im r) [m1, .im d, .im d']) : callD Fs (arB s (arD f (arD g arN))) e = .ok r (e2.set s (some m1)) := by
  have q : callM Fs (arB s (arD f (arD g arN))) e = .ok (.im r) (e2.set s (some m1)) := by
    simp [FD.ret, FD.lif, FD.bnd, FD.var, FD.bin, FD.un, FD.tst, FD.andT, FD.orT, FD.notT, FD.andV, FD.orV, FD.notV, FD.ifE, FD.nilA, FD.consA, FD.tupE, FD.lstE, FD.seqS, FD.exprS, FD.retS, FD.retM, FD.ifS, FD.stoM, FD.setS, FD.setM, FD.gN, FD.gsNil, FD.gsCons, FD.gT, FD.goS, FD.asgS, FD.parS, FD.augS, FD.itE, FD.itA, FD.cbE, FD.slE, FD.intE, FD.arN, FD.arD, FD.arB, FD.callD, FD.callM, FD.slotsOf, FD.argM, FD.putB, FD.isIm, FD.endF, FD.backs, FD.args0, FD.defF, FD.chn, FD.lstM, FD.dtM, FD.dkM, FD.imM, FD.frzE, FD.has, FD.chk, FD.pk, FD.pkLen, FD.peekD, FD.pkL, FD.pkR, callM, arB, arD, arN, bnd, h0, h1, h1', hs, h2]
  unfold callD
  rw [bnd_eq q]
  rfl
def ixChk (j : Nat) : Bool := match ixA (.str "abcdefghijklmnopqrstuvwxyz") (.int (j : Nat)) with
  | some (.str x) => x == sg (97 + j)
  | _ => false
theorem ix_all : ((List.range 26).all ixChk) = true := by decide +kernel
theorem ix_let {j : Nat} (h : j < 26) : ixA (.str "abcdefghijklmnopqrstuvwxyz") (.int (j : Nat)) = some (.str (sg (97 + j))) := by
  have := (List.all_eq_true.mp ix_all) j (List.mem_range.mpr h)
  unfold ixChk at this
  split at this
  · rename_i x hx
    rw [hx]
    rw [beq_iff_eq] at this
    rw [this]
  · cases this
def sgsD (cs : List Nat) : D := .list (cs.map fun c => .str (sg c))
theorem signs_at {a b c : Int} {n : Nat} (hn : n ≤ 100) (hb : 0 ≤ b) (hb2 : b < 800000) : ∃ (a' : Int) (cs : List Nat), cs.length = n ∧ (∀ x ∈ cs, isLet x = true) ∧ f_law_signs [stM a b c, .im (.int (n : Nat))] = .ok (.im (sgsD cs)) [stM a' (b + 2) c, .im (.int (n : Nat))] := by
  obtain ⟨r1, a1, _, _, t1⟩ := take_at (a := a) (b := b) (c := c) (m := 26) (by decide) (by decide) hb (by omega)
  obtain ⟨r2, a2, _, _, t2⟩ := take_at (a := a1) (b := b + 1) (c := c) (m := 6) (by decide) (by decide) (by omega) (by omega)
  let e0 : FD.Env := [some (stM a b c), some (.im (.int (n : Nat))), none, none, none]
  let e3 : FD.Env := [some (stM a2 (b + 2) c), some (.im (.int (n : Nat))), some (.im (.int r1)), some (.im (.int (1 + 2 * r2))), none]
  let cf : Nat → Nat := fun k => 97 + ((r1 + (1 + 2 * r2) * (k : Int)) % 26).toNat
  refine ⟨a2, (List.range n).map cf, by simp, fun x hx => ?_, ?_⟩
  · obtain ⟨k, _, rfl⟩ := List.mem_map.mp hx
    have h1 := Int.emod_nonneg (r1 + (1 + 2 * r2) * (k : Int)) (by decide : (26 : Int) ≠ 0)
    have h2 := Int.emod_lt_of_pos (r1 + (1 + 2 * r2) * (k : Int)) (by decide : (0 : Int) < 26)
    simp only [cf, isLet, Bool.and_eq_true, decide_eq_true_eq]
    omega
  · rw [show b + 1 + 1 = b + 2 by omega] at t2
    have c1 : callD f_law_take (arB 0 (arD (FD.ret (.int 26)) arN)) e0 = .ok (.int r1) [some (stM a1 (b + 1) c), some (.im (.int (n : Nat))), none, none, none] := callB1 (e1 := e0) (by rfl) ret_at (by rfl) t1
    have c2 : callD f_law_take (arB 0 (arD (FD.ret (.int 6)) arN)) [some (stM a1 (b + 1) c), some (.im (.int (n : Nat))), none, none, none] = .ok (.int r2) [some (stM a2 (b + 2) c), some (.im (.int (n : Nat))), none, none, none] := callB1 (e1 := [some (stM a1 (b + 1) c), some (.im (.int (n : Nat))), none, none, none]) (by rfl) ret_at (by rfl) t2
    have cc : compE [4] (itA rng1 (consA (var 1) nilA)) (gN 4) (FD.ret true) (FD.bin ixA (FD.ret (.str "abcdefghijklmnopqrstuvwxyz")) (FD.bin modD (FD.bin addD (var 2) (FD.bin mulD (var 3) (var 4))) (FD.ret (.int 26)))) e3 = .ok (sgsD ((List.range n).map cf)) e3 := by
      rw [comp1 (ds := (List.range n).map fun k => PyData.int (k : Nat)) (b := fun _ => true) (f := fun d => match d with | .int k => .str (sg (cf k.toNat)) | _ => .none) (by simp [FD.ret, FD.lif, FD.bnd, FD.var, FD.bin, FD.un, FD.tst, FD.andT, FD.orT, FD.notT, FD.andV, FD.orV, FD.notV, FD.ifE, FD.nilA, FD.consA, FD.tupE, FD.lstE, FD.seqS, FD.exprS, FD.retS, FD.retM, FD.ifS, FD.stoM, FD.setS, FD.setM, FD.gN, FD.gsNil, FD.gsCons, FD.gT, FD.goS, FD.asgS, FD.parS, FD.augS, FD.itE, FD.itA, FD.cbE, FD.slE, FD.intE, FD.arN, FD.arD, FD.arB, FD.callD, FD.callM, FD.slotsOf, FD.argM, FD.putB, FD.isIm, FD.endF, FD.backs, FD.args0, FD.defF, FD.chn, FD.lstM, FD.dtM, FD.dkM, FD.imM, FD.frzE, FD.has, FD.chk, FD.pk, FD.pkLen, FD.peekD, FD.pkL, FD.pkR, e3]) (by rfl) (itA_eq (consA_eq (by rfl) (by rfl)) (rng1_nat (by omega))) (by rw [List.length_map, List.length_range]; omega) ?_]
      · rw [filt_true]
        unfold sgsD
        rw [List.map_map, List.map_map]
        rfl
      · intro d hd
        obtain ⟨k, hk, rfl⟩ := List.mem_map.mp hd
        rw [List.mem_range] at hk
        refine ⟨rfl, fun _ => ?_⟩
        have h1 := Int.emod_nonneg (r1 + (1 + 2 * r2) * (k : Int)) (by decide : (26 : Int) ≠ 0)
        have h2 := Int.emod_lt_of_pos (r1 + (1 + 2 * r2) * (k : Int)) (by decide : (0 : Int) < 26)
        have hx := ix_let (j := ((r1 + (1 + 2 * r2) * (k : Int)) % 26).toNat) (by omega)
        rw [Int.toNat_of_nonneg h1] at hx
        exact bin_eq ret_at (bin_eq (bin_eq (by rfl) (bin_eq (by rfl) (by rfl) (mulD_r (by omega) (by omega))) addD_int) ret_at (modD_int (by decide))) hx
    have b1 : g_law_signs e0 = .ok (.ret (.im (sgsD ((List.range n).map cf)))) e3 := by
      unfold g_law_signs
      rw [seqS_nxt (e' := e3) (by
        unfold asgS
        rw [bnd_eq (tupE_eq (consA_eq c1 (consA_eq (bin_eq ret_at (bin_eq ret_at c2 (mulD_r (by omega) (by omega))) addD_int) (by rfl))) (by simp))]
        rfl)]
      exact ret_eq cc
    have u : f_law_signs [stM a b c, .im (.int (n : Nat))] = endF [0] [stM a b c, .im (.int (n : Nat))] (g_law_signs e0) := rfl
    rw [u, b1]
    rfl
theorem ix_list {cs : List D} {j : Int} (h0 : 0 ≤ j) (h : j < cs.length) : ∃ d ∈ cs, ixA (.list cs) (.int j) = some d := by
  have hj : j.toNat < cs.length := by omega
  refine ⟨cs[j.toNat], List.getElem_mem hj, ?_⟩
  show atI cs j = _
  unfold atI ixN
  rw [if_pos h0, if_pos h]
  exact List.getElem?_eq_getElem hj
theorem side_at {a b c : Int} {cs : List Nat} {en : Nat} (hl : cs.length ≤ 100) (hb : 0 ≤ b) (hb2 : b < 800000) : ∃ (a' : Int) (x : Nat), (x ∈ cs ∨ x = en ∨ x = 42) ∧ f_law_side [stM a b c, .im (sgsD cs), .im (.str (sg en))] = .ok (.im (.str (sg x))) [stM a' (b + 1) c, .im (sgsD cs), .im (.str (sg en))] := by
  obtain ⟨r1, a1, h0, h1, t1⟩ := take_at (a := a) (b := b) (c := c) (m := (cs.length : Int) + 2) (by omega) (by omega) hb (by omega)
  let e0 : FD.Env := [some (stM a b c), some (.im (sgsD cs)), some (.im (.str (sg en)))]
  let all : List D := (cs.map fun c => PyData.str (sg c)) ++ [.str (sg en), .str (sg 42)]
  obtain ⟨d, hd, hx⟩ := ix_list (cs := all) (j := r1) h0 (by simp [FD.ret, FD.lif, FD.bnd, FD.var, FD.bin, FD.un, FD.tst, FD.andT, FD.orT, FD.notT, FD.andV, FD.orV, FD.notV, FD.ifE, FD.nilA, FD.consA, FD.tupE, FD.lstE, FD.seqS, FD.exprS, FD.retS, FD.retM, FD.ifS, FD.stoM, FD.setS, FD.setM, FD.gN, FD.gsNil, FD.gsCons, FD.gT, FD.goS, FD.asgS, FD.parS, FD.augS, FD.itE, FD.itA, FD.cbE, FD.slE, FD.intE, FD.arN, FD.arD, FD.arB, FD.callD, FD.callM, FD.slotsOf, FD.argM, FD.putB, FD.isIm, FD.endF, FD.backs, FD.args0, FD.defF, FD.chn, FD.lstM, FD.dtM, FD.dkM, FD.imM, FD.frzE, FD.has, FD.chk, FD.pk, FD.pkLen, FD.peekD, FD.pkL, FD.pkR, all]; omega)
  have hdx : ∃ x : Nat, (x ∈ cs ∨ x = en ∨ x = 42) ∧ d = .str (sg x) := by
    rcases List.mem_append.mp hd with z | z
    · obtain ⟨x, h1, rfl⟩ := List.mem_map.mp z
      exact ⟨x, .inl h1, rfl⟩
    · simp only [List.mem_cons, List.not_mem_nil, or_false] at z
      rcases z with z | z
      · exact ⟨en, .inr (.inl rfl), z⟩
      · exact ⟨42, .inr (.inr rfl), z⟩
  obtain ⟨x, hxx, rfl⟩ := hdx
  refine ⟨a1, x, hxx, ?_⟩
  have c1 : FD.bin addD (var 1) (lstE (consA (var 2) (consA (FD.ret (.str "*")) nilA))) e0 = .ok (.list all) e0 := by
    refine bin_eq (by rfl) (lstE_eq (consA_eq (by rfl) (consA_eq ret_at (by rfl))) (by simp)) ?_
    show addD (.list (cs.map fun c => PyData.str (sg c))) (.list [.str (sg en), .str "*"]) = _
    rw [addD_list, if_pos (few_le' (by simp; omega))]
    rfl
  have c2 : callD f_law_take (arB 0 (arD (FD.bin addD (cbE lenD (consA (var 1) nilA)) (FD.ret (.int 2))) arN)) e0 = .ok (.int r1) [some (stM a1 (b + 1) c), some (.im (sgsD cs)), some (.im (.str (sg en)))] :=
    callB1 (e1 := e0) (by rfl) (bin_eq (cbE_eq (consA_eq (by rfl) (by rfl)) (show lenD [sgsD cs] = some (.int (cs.length : Int)) by show some (PyData.int (((cs.map fun c => PyData.str (sg c)).length : Nat) : Int)) = _; rw [List.length_map])) ret_at addD_int) (by rfl) t1
  have b1 : g_law_side e0 = .ok (.ret (.im (.str (sg x)))) [some (stM a1 (b + 1) c), some (.im (sgsD cs)), some (.im (.str (sg en)))] := ret_eq (bin_eq c1 c2 hx)
  have u : f_law_side [stM a b c, .im (sgsD cs), .im (.str (sg en))] = endF [0] [stM a b c, .im (sgsD cs), .im (.str (sg en))] (g_law_side e0) := rfl
  rw [u, b1]
  rfl
end FDL
namespace FDL
open PySem L2 FD
theorem rule_at {a b c : Int} {cs : List Nat} (h1 : 1 ≤ cs.length) (hl : cs.length ≤ 100) (hcs : ∀ x ∈ cs, isLet x = true) (hb : 0 ≤ b) (hb2 : b < 700000) : ∃ (a' b' : Int) (r : Ru), okR r = true ∧ b ≤ b' ∧ b' ≤ b + 5 ∧ f_law_rule [stM a b c, .im (sgsD cs)] = .ok (.im (ruD r)) [stM a' b' c, .im (sgsD cs)] := by
  obtain ⟨a1, x, hx, s1⟩ := side_at (a := a) (b := b) (c := c) (cs := cs) (en := 60) hl hb (by omega)
  obtain ⟨a2, y, hy, s2⟩ := side_at (a := a1) (b := b + 1) (c := c) (cs := cs) (en := 62) hl (by omega) (by omega)
  obtain ⟨r3, a3, h30, h31, t3⟩ := take_at (a := a2) (b := b + 1 + 1) (c := c) (m := (cs.length : Int)) (by omega) (by omega) (by omega) (by omega)
  obtain ⟨r4, a4, h40, h41, t4⟩ := take_at (a := a3) (b := b + 1 + 1 + 1) (c := c) (m := 4) (by decide) (by decide) (by omega) (by omega)
  obtain ⟨r5, a5, h50, h51, t5⟩ := take_at (a := a4) (b := b + 1 + 1 + 1 + 1) (c := c) (m := 1000) (by decide) (by decide) (by omega) (by omega)
  obtain ⟨d, hd, hix⟩ := ix_list (cs := cs.map fun c => PyData.str (sg c)) (j := r3) h30 (by rw [List.length_map]; exact h31)
  obtain ⟨l, hl1, rfl⟩ := List.mem_map.mp hd
  let S := sgsD cs
  let e0 : FD.Env := [some (stM a b c), some (.im S), none, none, none, none]
  let e1 : FD.Env := [some (stM a1 (b + 1) c), some (.im S), none, none, none, none]
  let e2 : FD.Env := [some (stM a2 (b + 1 + 1) c), some (.im S), none, none, none, none]
  let e3 : FD.Env := [some (stM a2 (b + 1 + 1) c), some (.im S), some (.im (.str (sg x))), some (.im (.str (sg y))), none, none]
  let e4 : FD.Env := [some (stM a3 (b + 1 + 1 + 1) c), some (.im S), some (.im (.str (sg x))), some (.im (.str (sg y))), none, none]
  let e5 : FD.Env := [some (stM a4 (b + 1 + 1 + 1 + 1) c), some (.im S), some (.im (.str (sg x))), some (.im (.str (sg y))), none, none]
  let e6 : FD.Env := [some (stM a4 (b + 1 + 1 + 1 + 1) c), some (.im S), some (.im (.str (sg x))), some (.im (.str (sg y))), some (.im (.str (sg l))), some (.im (.int r4))]
  let e7 : FD.Env := [some (stM a5 (b + 1 + 1 + 1 + 1 + 1) c), some (.im S), some (.im (.str (sg x))), some (.im (.str (sg y))), some (.im (.str (sg l))), some (.im (.int r4))]
  have q1 : callD f_law_side (arB 0 (arD (var 1) (arD (FD.ret (.str "<")) arN))) e0 = .ok (.str (sg x)) e1 := callB2 (e1 := e0) (e2 := e0) (by rfl) (by rfl) ret_at (by rfl) s1
  have q2 : callD f_law_side (arB 0 (arD (var 1) (arD (FD.ret (.str ">")) arN))) e1 = .ok (.str (sg y)) e2 := callB2 (e1 := e1) (e2 := e1) (by rfl) (by rfl) ret_at (by rfl) s2
  have lenq : lenD [S] = some (.int (cs.length : Int)) := by
    show some (PyData.int (((cs.map fun c => PyData.str (sg c)).length : Nat) : Int)) = _
    rw [List.length_map]
  have q3 : callD f_law_take (arB 0 (arD (cbE lenD (consA (var 1) nilA)) arN)) e3 = .ok (.int r3) e4 := callB1 (e1 := e3) (by rfl) (cbE_eq (consA_eq (by rfl) (by rfl)) lenq) (by rfl) t3
  have q4 : callD f_law_take (arB 0 (arD (FD.ret (.int 4)) arN)) e4 = .ok (.int r4) e5 := callB1 (e1 := e4) (by rfl) ret_at (by rfl) t4
  have q5 : callD f_law_take (arB 0 (arD (FD.ret (.int 1000)) arN)) e6 = .ok (.int r5) e7 := callB1 (e1 := e6) (by rfl) ret_at (by rfl) t5
  have okx : okA x = true := by
    unfold okA
    rcases hx with z | z | z
    · rw [hcs x z]; rfl
    · subst z; decide
    · subst z; decide
  have oky : okB y = true := by
    unfold okB
    rcases hy with z | z | z
    · rw [hcs y z]; rfl
    · subst z; decide
    · subst z; decide
  have p1 : parS (consA (callD f_law_side (arB 0 (arD (var 1) (arD (FD.ret (.str "<")) arN)))) (consA (callD f_law_side (arB 0 (arD (var 1) (arD (FD.ret (.str ">")) arN)))) nilA)) (gsCons (gN 2) (gsCons (gN 3) gsNil)) e0 = .ok .nxt e3 := by
    unfold parS
    rw [bnd_eq (consA_eq q1 (consA_eq q2 (by rfl)))]
    rfl
  have p2 : parS (consA (FD.bin ixA (var 1) (callD f_law_take (arB 0 (arD (cbE lenD (consA (var 1) nilA)) arN)))) (consA (callD f_law_take (arB 0 (arD (FD.ret (.int 4)) arN))) nilA)) (gsCons (gN 4) (gsCons (gN 5) gsNil)) e3 = .ok .nxt e6 := by
    unfold parS
    rw [bnd_eq (consA_eq (bin_eq (by rfl) q3 hix) (consA_eq q4 (by rfl)))]
    rfl
  have t6 : tst (FD.bin eqA (var 5) (FD.ret (.int 3))) e6 = .ok (r4 == 3) e6 := tst_eq (bin_eq (by rfl) ret_at eqA_int)
  have u : f_law_rule [stM a b c, .im S] = endF [0] [stM a b c, .im S] (g_law_rule e0) := rfl
  by_cases h3 : r4 = 3
  · rw [show (r4 == 3) = true by simpa using h3] at t6
    refine ⟨a5, b + 1 + 1 + 1 + 1 + 1, ⟨x, l, y, r5⟩, ?_, by omega, by omega, ?_⟩
    · simp [FD.ret, FD.lif, FD.bnd, FD.var, FD.bin, FD.un, FD.tst, FD.andT, FD.orT, FD.notT, FD.andV, FD.orV, FD.notV, FD.ifE, FD.nilA, FD.consA, FD.tupE, FD.lstE, FD.seqS, FD.exprS, FD.retS, FD.retM, FD.ifS, FD.stoM, FD.setS, FD.setM, FD.gN, FD.gsNil, FD.gsCons, FD.gT, FD.goS, FD.asgS, FD.parS, FD.augS, FD.itE, FD.itA, FD.cbE, FD.slE, FD.intE, FD.arN, FD.arD, FD.arB, FD.callD, FD.callM, FD.slotsOf, FD.argM, FD.putB, FD.isIm, FD.endF, FD.backs, FD.args0, FD.defF, FD.chn, FD.lstM, FD.dtM, FD.dkM, FD.imM, FD.frzE, FD.has, FD.chk, FD.pk, FD.pkLen, FD.peekD, FD.pkL, FD.pkR, okR, okx, oky, hcs l hl1, h50]; omega
    · have f1 : ifE (tst (FD.bin eqA (var 5) (FD.ret (.int 3)))) (callD f_law_take (arB 0 (arD (FD.ret (.int 1000)) arN))) (var 5) e6 = .ok (.int r5) e7 := by
        unfold ifE
        rw [bnd_eq t6]
        exact q5
      have b1 : g_law_rule e0 = .ok (.ret (.im (ruD ⟨x, l, y, r5⟩))) e7 := by
        unfold g_law_rule
        rw [seqS_nxt p1, seqS_nxt p2]
        exact ret_eq (tupE_eq (consA_eq (by rfl) (consA_eq (by rfl) (consA_eq (by rfl) (consA_eq f1 (by rfl))))) (by simp))
      rw [u, b1]
      rfl
  · rw [show (r4 == 3) = false by simpa using h3] at t6
    refine ⟨a4, b + 1 + 1 + 1 + 1, ⟨x, l, y, r4⟩, ?_, by omega, by omega, ?_⟩
    · simp [FD.ret, FD.lif, FD.bnd, FD.var, FD.bin, FD.un, FD.tst, FD.andT, FD.orT, FD.notT, FD.andV, FD.orV, FD.notV, FD.ifE, FD.nilA, FD.consA, FD.tupE, FD.lstE, FD.seqS, FD.exprS, FD.retS, FD.retM, FD.ifS, FD.stoM, FD.setS, FD.setM, FD.gN, FD.gsNil, FD.gsCons, FD.gT, FD.goS, FD.asgS, FD.parS, FD.augS, FD.itE, FD.itA, FD.cbE, FD.slE, FD.intE, FD.arN, FD.arD, FD.arB, FD.callD, FD.callM, FD.slotsOf, FD.argM, FD.putB, FD.isIm, FD.endF, FD.backs, FD.args0, FD.defF, FD.chn, FD.lstM, FD.dtM, FD.dkM, FD.imM, FD.frzE, FD.has, FD.chk, FD.pk, FD.pkLen, FD.peekD, FD.pkL, FD.pkR, okR, okx, oky, hcs l hl1, h40]; omega
    · have f1 : ifE (tst (FD.bin eqA (var 5) (FD.ret (.int 3)))) (callD f_law_take (arB 0 (arD (FD.ret (.int 1000)) arN))) (var 5) e6 = .ok (.int r4) e6 := by
        unfold ifE
        rw [bnd_eq t6]
        rfl
      have b1 : g_law_rule e0 = .ok (.ret (.im (ruD ⟨x, l, y, r4⟩))) e6 := by
        unfold g_law_rule
        rw [seqS_nxt p1, seqS_nxt p2]
        exact ret_eq (tupE_eq (consA_eq (by rfl) (consA_eq (by rfl) (consA_eq (by rfl) (consA_eq f1 (by rfl))))) (by simp))
      rw [u, b1]
      rfl
end FDL
namespace FDL
open PySem L2 FD
def lsM (rs : List Ru) : M := .ls (rs.map fun r => .im (ruD r))
theorem toD_ls (rs : List Ru) : (lsM rs).toD = some (.list (rs.map ruD)) := by
  have : (rs.map fun r => M.im (ruD r)) = (rs.map ruD).map M.im := by rw [List.map_map]; rfl
  unfold lsM
  rw [this]
  show (imAll ((rs.map ruD).map M.im)).map PyData.list = _
  rw [imAll_im]
  rfl
theorem ne_list {rs : List Ru} (h : ∀ r ∈ rs, okR r = true) : neD (.list (rs.map ruD)) (.list []) = some (.bool (!rs.isEmpty)) := by
  have s2 := (gd_list (k := 1) (W := 44) (ds := rs.map ruD) fun d hd => by
    obtain ⟨g, h1, rfl⟩ := List.mem_map.mp hd
    exact gd_ru (h g h1)).shp (by decide)
  have s3 : SeqAt.shaped (.list []) = true := by decide
  unfold neD eqOk
  rw [s2, s3]
  simp only [Bool.and_self, Bool.or_true, if_true]
  congr 2
  cases rs <;> simp [FD.ret, FD.lif, FD.bnd, FD.var, FD.bin, FD.un, FD.tst, FD.andT, FD.orT, FD.notT, FD.andV, FD.orV, FD.notV, FD.ifE, FD.nilA, FD.consA, FD.tupE, FD.lstE, FD.seqS, FD.exprS, FD.retS, FD.retM, FD.ifS, FD.stoM, FD.setS, FD.setM, FD.gN, FD.gsNil, FD.gsCons, FD.gT, FD.goS, FD.asgS, FD.parS, FD.augS, FD.itE, FD.itA, FD.cbE, FD.slE, FD.intE, FD.arN, FD.arD, FD.arB, FD.callD, FD.callM, FD.slotsOf, FD.argM, FD.putB, FD.isIm, FD.endF, FD.backs, FD.args0, FD.defF, FD.chn, FD.lstM, FD.dtM, FD.dkM, FD.imM, FD.frzE, FD.has, FD.chk, FD.pk, FD.pkLen, FD.peekD, FD.pkL, FD.pkR, PyData.eqv, PyData.eqvAll]
theorem sl_ru_hi {r : Ru} : slD (ruD r) none (some 3) = some (.tuple [.str (sg r.a), .str (sg r.l), .str (sg r.b)]) := rfl
theorem sl_ru_lo {r : Ru} : slD (ruD r) (some 3) none = some (.tuple [.int r.p]) := rfl
def eR (a b c : Int) (S n : D) (rs : List Ru) (x4 x5 x6 : Option M) : FD.Env := [some (stM a b c), some (.im S), some (.im n), some (lsM rs), x4, x5, x6]
theorem peek_at {a b c : Int} {S n : D} {rs : List Ru} {x4 x5 x6 : Option M} : peekD 3 (eR a b c S n rs x4 x5 x6) = some (.list (rs.map ruD)) := toD_ls rs
theorem len_at {a b c : Int} {S n : D} {rs : List Ru} {x4 x5 x6 : Option M} : pkLen 3 (eR a b c S n rs x4 x5 x6) = .ok (.int (rs.length : Int)) (eR a b c S n rs x4 x5 x6) := by
  have h := peek_at (a := a) (b := b) (c := c) (S := S) (n := n) (rs := rs) (x4 := x4) (x5 := x5) (x6 := x6)
  unfold pkLen chk pk
  rw [if_pos (by rfl), h]
  show Out.ok (PyData.int (((rs.map ruD).length : Nat) : Int)) _ = _
  rw [List.length_map]
theorem item_ls {a b c : Int} {S n : D} {rs : List Ru} {x4 x5 x6 : Option M} {j : Int} (h0 : 0 ≤ j) (h1 : j < rs.length) : ∃ r ∈ rs, itemA 3 (.int j) (eR a b c S n rs x4 x5 x6) = some (ruD r) := by
  have hj : j.toNat < rs.length := by omega
  refine ⟨rs[j.toNat], List.getElem_mem hj, ?_⟩
  have : atI (rs.map fun r => M.im (ruD r)) j = some (.im (ruD rs[j.toNat])) := by
    unfold atI ixN
    rw [if_pos h0, if_pos (by rw [List.length_map]; exact h1)]
    show (rs.map fun r => M.im (ruD r))[j.toNat]? = _
    rw [List.getElem?_map, List.getElem?_eq_getElem hj]
    rfl
  show (match atI (rs.map fun r => M.im (ruD r)) j with | some (.im d) => some d | _ => none) = _
  rw [this]
end FDL
namespace FDL
open PySem L2 FD
theorem app_at {a b c : Int} {S n : D} {rs : List Ru} {x4 x6 : Option M} {r : Ru} (hl : rs.length ≤ 1000) : appS 3 (var 5) (eR a b c S n rs x4 (some (.im (ruD r))) x6) = .ok .nxt (eR a b c S n (rs ++ [r]) x4 (some (.im (ruD r))) x6) := by
  unfold appS
  rw [if_pos (by rfl), bnd_eq (a := ruD r) (e1 := eR a b c S n rs x4 (some (.im (ruD r))) x6) (by rfl)]
  show (if few ((rs.map fun r => M.im (ruD r)).length + 1) then _ else _) = _
  rw [if_pos (few_le' (by rw [List.length_map]; omega))]
  unfold eR lsM
  rw [List.map_append]
  rfl
theorem pkL_at {a b c : Int} {S n : D} {rs : List Ru} {x4 x5 x6 : Option M} (h : ∀ r ∈ rs, okR r = true) : tst (pkL 3 neD (lstE nilA)) (eR a b c S n rs x4 x5 x6) = .ok (!rs.isEmpty) (eR a b c S n rs x4 x5 x6) := by
  refine tst_eq ?_
  unfold pkL chk
  rw [if_pos (by rfl), bnd_eq (a := .list []) (e1 := eR a b c S n rs x4 x5 x6) (by rfl)]
  unfold pk
  rw [peek_at]
  show lif (neD (.list (rs.map ruD)) (.list [])) _ = _
  rw [ne_list h]
  rfl
theorem turn_rules {a b c : Int} {cs : List Nat} {n : D} {rs : List Ru} (x4 x5 x6 : Option M) (h1 : 1 ≤ cs.length) (hl : cs.length ≤ 100) (hcs : ∀ x ∈ cs, isLet x = true) (hb : 0 ≤ b) (hb2 : b < 600000) (hr : ∀ r ∈ rs, okR r = true) (hrl : rs.length ≤ 500) :
    ∃ (a' b' : Int) (r : Ru) (y5 y6 : Option M), okR r = true ∧ b ≤ b' ∧ b' ≤ b + 8 ∧ seqS (setS 5 (callD f_law_rule (arB 0 (arD (var 1) arN)))) (seqS (ifS (andT (tst (pkL 3 neD (lstE nilA))) (tst (FD.bin eqA (callD f_law_take (arB 0 (arD (FD.ret (.int 6)) arN))) (FD.ret (.int 0))))) (seqS (setS 6 (pkIxA 3 (callD f_law_take (arB 0 (arD (pkLen 3) arN))))) (setS 5 (ifE (tst (FD.bin eqA (callD f_law_take (arB 0 (arD (FD.ret (.int 2)) arN))) (FD.ret (.int 0)))) (var 6) (FD.bin addD (slE (var 6) (FD.ret none) (intE (FD.ret (.int 3)))) (slE (var 5) (intE (FD.ret (.int 3))) (FD.ret none)))))) (FD.ret .nxt)) (appS 3 (var 5)))
      (eR a b c (sgsD cs) n rs x4 x5 x6) = .ok .nxt (eR a' b' c (sgsD cs) n (rs ++ [r]) x4 y5 y6) := by
  obtain ⟨a1, b1, r0, ok0, hb0, hb1, q1⟩ := rule_at (a := a) (b := b) (c := c) h1 hl hcs hb (by omega)
  let e1 : FD.Env := eR a1 b1 c (sgsD cs) n rs x4 (some (.im (ruD r0))) x6
  have s1 : setS 5 (callD f_law_rule (arB 0 (arD (var 1) arN))) (eR a b c (sgsD cs) n rs x4 x5 x6) = .ok .nxt e1 :=
    setS_eq (e1 := eR a1 b1 c (sgsD cs) n rs x4 x5 x6) (callB1 (e1 := eR a b c (sgsD cs) n rs x4 x5 x6) (by rfl) (by rfl) (by rfl) q1) (by simp [FD.ret, FD.lif, FD.bnd, FD.var, FD.bin, FD.un, FD.tst, FD.andT, FD.orT, FD.notT, FD.andV, FD.orV, FD.notV, FD.ifE, FD.nilA, FD.consA, FD.tupE, FD.lstE, FD.seqS, FD.exprS, FD.retS, FD.retM, FD.ifS, FD.stoM, FD.setS, FD.setM, FD.gN, FD.gsNil, FD.gsCons, FD.gT, FD.goS, FD.asgS, FD.parS, FD.augS, FD.itE, FD.itA, FD.cbE, FD.slE, FD.intE, FD.arN, FD.arD, FD.arB, FD.callD, FD.callM, FD.slotsOf, FD.argM, FD.putB, FD.isIm, FD.endF, FD.backs, FD.args0, FD.defF, FD.chn, FD.lstM, FD.dtM, FD.dkM, FD.imM, FD.frzE, FD.has, FD.chk, FD.pk, FD.pkLen, FD.peekD, FD.pkL, FD.pkR, eR])
  have t1 := pkL_at (a := a1) (b := b1) (c := c) (S := sgsD cs) (n := n) (x4 := x4) (x5 := some (.im (ruD r0))) (x6 := x6) hr
  rw [seqS_nxt s1]
  cases he : rs.isEmpty with
  | true =>
    rw [he] at t1
    refine ⟨a1, b1, r0, some (.im (ruD r0)), x6, ok0, by omega, by omega, ?_⟩
    rw [seqS_nxt (e' := e1) (by rw [ifS_eq (b := false) (e1 := e1) (by rw [andT_eq t1]; rfl)]; rfl)]
    exact app_at (by omega)
  | false =>
    rw [he] at t1
    obtain ⟨r2, a2, _, _, q2⟩ := take_at (a := a1) (b := b1) (c := c) (m := 6) (by decide) (by decide) (by omega) (by omega)
    let e2 : FD.Env := eR a2 (b1 + 1) c (sgsD cs) n rs x4 (some (.im (ruD r0))) x6
    have t2 : tst (FD.bin eqA (callD f_law_take (arB 0 (arD (FD.ret (.int 6)) arN))) (FD.ret (.int 0))) e1 = .ok (r2 == 0) e2 := tst_eq (bin_eq (callB1 (e1 := e1) (by rfl) ret_at (by rfl) q2) ret_at eqA_int)
    have ta : andT (tst (pkL 3 neD (lstE nilA))) (tst (FD.bin eqA (callD f_law_take (arB 0 (arD (FD.ret (.int 6)) arN))) (FD.ret (.int 0)))) e1 = .ok (r2 == 0) e2 := by
      rw [andT_eq t1]
      exact t2
    cases hz : r2 == 0 with
    | false =>
      rw [hz] at ta
      refine ⟨a2, b1 + 1, r0, some (.im (ruD r0)), x6, ok0, by omega, by omega, ?_⟩
      rw [seqS_nxt (e' := e2) (by rw [ifS_eq ta]; rfl)]
      exact app_at (by omega)
    | true =>
      rw [hz] at ta
      have hne : rs ≠ [] := by simpa using he
      have hpos : 0 < rs.length := List.length_pos_iff.mpr hne
      obtain ⟨r3, a3, h30, h31, q3⟩ := take_at (a := a2) (b := b1 + 1) (c := c) (m := (rs.length : Int)) (by omega) (by omega) (by omega) (by omega)
      let e3 : FD.Env := eR a3 (b1 + 1 + 1) c (sgsD cs) n rs x4 (some (.im (ruD r0))) x6
      obtain ⟨el, hel, hit⟩ := item_ls (a := a3) (b := b1 + 1 + 1) (c := c) (S := sgsD cs) (n := n) (x4 := x4) (x5 := some (.im (ruD r0))) (x6 := x6) h30 h31
      have k3 : callD f_law_take (arB 0 (arD (pkLen 3) arN)) e2 = .ok (.int r3) e3 := callB1 (e1 := e2) (by rfl) len_at (by rfl) q3
      have k4 : pkIxA 3 (callD f_law_take (arB 0 (arD (pkLen 3) arN))) e2 = .ok (ruD el) e3 := by
        unfold pkIxA chk
        rw [if_pos (by rfl), bnd_eq k3, hit]
        rfl
      let e4 : FD.Env := eR a3 (b1 + 1 + 1) c (sgsD cs) n rs x4 (some (.im (ruD r0))) (some (.im (ruD el)))
      have s4 : setS 6 (pkIxA 3 (callD f_law_take (arB 0 (arD (pkLen 3) arN)))) e2 = .ok .nxt e4 := setS_eq (e1 := e3) k4 (by simp [FD.ret, FD.lif, FD.bnd, FD.var, FD.bin, FD.un, FD.tst, FD.andT, FD.orT, FD.notT, FD.andV, FD.orV, FD.notV, FD.ifE, FD.nilA, FD.consA, FD.tupE, FD.lstE, FD.seqS, FD.exprS, FD.retS, FD.retM, FD.ifS, FD.stoM, FD.setS, FD.setM, FD.gN, FD.gsNil, FD.gsCons, FD.gT, FD.goS, FD.asgS, FD.parS, FD.augS, FD.itE, FD.itA, FD.cbE, FD.slE, FD.intE, FD.arN, FD.arD, FD.arB, FD.callD, FD.callM, FD.slotsOf, FD.argM, FD.putB, FD.isIm, FD.endF, FD.backs, FD.args0, FD.defF, FD.chn, FD.lstM, FD.dtM, FD.dkM, FD.imM, FD.frzE, FD.has, FD.chk, FD.pk, FD.pkLen, FD.peekD, FD.pkL, FD.pkR, e3, eR])
      obtain ⟨r5, a5, _, _, q5⟩ := take_at (a := a3) (b := b1 + 1 + 1) (c := c) (m := 2) (by decide) (by decide) (by omega) (by omega)
      let e5 : FD.Env := eR a5 (b1 + 1 + 1 + 1) c (sgsD cs) n rs x4 (some (.im (ruD r0))) (some (.im (ruD el)))
      have t5 : tst (FD.bin eqA (callD f_law_take (arB 0 (arD (FD.ret (.int 2)) arN))) (FD.ret (.int 0))) e4 = .ok (r5 == 0) e5 := tst_eq (bin_eq (callB1 (e1 := e4) (by rfl) ret_at (by rfl) q5) ret_at eqA_int)
      have f5 : ∃ r, okR r = true ∧ ifE (tst (FD.bin eqA (callD f_law_take (arB 0 (arD (FD.ret (.int 2)) arN))) (FD.ret (.int 0)))) (var 6) (FD.bin addD (slE (var 6) (FD.ret none) (intE (FD.ret (.int 3)))) (slE (var 5) (intE (FD.ret (.int 3))) (FD.ret none))) e4 = .ok (ruD r) e5 := by
        unfold ifE
        rw [bnd_eq t5]
        cases r5 == 0 with
        | true => exact ⟨el, hr el hel, rfl⟩
        | false =>
          refine ⟨⟨el.a, el.l, el.b, r0.p⟩, ?_, ?_⟩
          · have o1 := hr el hel
            simp only [okR, Bool.and_eq_true] at o1 ok0 ⊢
            exact ⟨o1.1, ok0.2⟩
          · exact bin_eq (slE_eq (by rfl) ret_at (intE_eq ret_at) sl_ru_hi) (slE_eq (by rfl) (intE_eq ret_at) ret_at sl_ru_lo) (by rfl)
      obtain ⟨r, okr, f5⟩ := f5
      refine ⟨a5, b1 + 1 + 1 + 1, r, some (.im (ruD r)), some (.im (ruD el)), okr, by omega, by omega, ?_⟩
      rw [seqS_nxt (e' := eR a5 (b1 + 1 + 1 + 1) c (sgsD cs) n rs x4 (some (.im (ruD r))) (some (.im (ruD el)))) (by
        rw [ifS_eq ta]
        show seqS _ _ e2 = _
        rw [seqS_nxt s4]
        exact setS_eq (e1 := e5) f5 (by simp [FD.ret, FD.lif, FD.bnd, FD.var, FD.bin, FD.un, FD.tst, FD.andT, FD.orT, FD.notT, FD.andV, FD.orV, FD.notV, FD.ifE, FD.nilA, FD.consA, FD.tupE, FD.lstE, FD.seqS, FD.exprS, FD.retS, FD.retM, FD.ifS, FD.stoM, FD.setS, FD.setM, FD.gN, FD.gsNil, FD.gsCons, FD.gT, FD.goS, FD.asgS, FD.parS, FD.augS, FD.itE, FD.itA, FD.cbE, FD.slE, FD.intE, FD.arN, FD.arD, FD.arB, FD.callD, FD.callM, FD.slotsOf, FD.argM, FD.putB, FD.isIm, FD.endF, FD.backs, FD.args0, FD.defF, FD.chn, FD.lstM, FD.dtM, FD.dkM, FD.imM, FD.frzE, FD.has, FD.chk, FD.pk, FD.pkLen, FD.peekD, FD.pkL, FD.pkR, e5, eR]))]
      exact app_at (by omega)
end FDL
namespace FDL
open PySem L2 FD
theorem rules_loop2 {c : Int} {cs : List Nat} {n : D} (h1 : 1 ≤ cs.length) (hl : cs.length ≤ 100) (hcs : ∀ x ∈ cs, isLet x = true) : ∀ (ds : List D) (a b : Int) (rs : List Ru) (x4 x5 x6 : Option M), (∀ r ∈ rs, okR r = true) → rs.length + ds.length ≤ 80 → 0 ≤ b → b + 8 * ds.length < 600000 →
    ∃ (a' b' : Int) (rs' : List Ru) (y4 y5 y6 : Option M), (∀ r ∈ rs', okR r = true) ∧ rs'.length = rs.length + ds.length ∧ b ≤ b' ∧ b' ≤ b + 8 * ds.length ∧ loopS (gN 4) (seqS (setS 5 (callD f_law_rule (arB 0 (arD (var 1) arN)))) (seqS (ifS (andT (tst (pkL 3 neD (lstE nilA))) (tst (FD.bin eqA (callD f_law_take (arB 0 (arD (FD.ret (.int 6)) arN))) (FD.ret (.int 0))))) (seqS (setS 6 (pkIxA 3 (callD f_law_take (arB 0 (arD (pkLen 3) arN))))) (setS 5 (ifE (tst (FD.bin eqA (callD f_law_take (arB 0 (arD (FD.ret (.int 2)) arN))) (FD.ret (.int 0)))) (var 6) (FD.bin addD (slE (var 6) (FD.ret none) (intE (FD.ret (.int 3)))) (slE (var 5) (intE (FD.ret (.int 3))) (FD.ret none)))))) (FD.ret .nxt)) (appS 3 (var 5))))
      ds (eR a b c (sgsD cs) n rs x4 x5 x6) = .ok .nxt (eR a' b' c (sgsD cs) n rs' y4 y5 y6)
  | [], a, b, rs, x4, x5, x6, hr, _, _, _ => ⟨a, b, rs, x4, x5, x6, hr, by simp, by omega, by simp, rfl⟩
  | d :: ds, a, b, rs, x4, x5, x6, hr, hlen, hb, hb2 => by
    rw [List.length_cons] at hlen hb2
    obtain ⟨a1, b1, r, y5, y6, okr, hb3, hb4, ht⟩ := turn_rules (a := a) (b := b) (c := c) (n := n) (some (.im d)) x5 x6 h1 hl hcs hb (by omega) hr (by omega)
    have hr' : ∀ x ∈ rs ++ [r], okR x = true := fun x hx => by
      rcases List.mem_append.mp hx with z | z
      · exact hr x z
      · simp at z; rw [z]; exact okr
    obtain ⟨a2, b2, rs', z4, z5, z6, g1, g2, g3, g4, g5⟩ := rules_loop2 (c := c) (n := n) h1 hl hcs ds a1 b1 (rs ++ [r]) (some (.im d)) y5 y6 hr' (by simp; omega) (by omega) (by omega)
    refine ⟨a2, b2, rs', z4, z5, z6, g1, ?_, by omega, ?_, ?_⟩
    · rw [g2]; simp; omega
    · rw [List.length_cons]; omega
    · rw [loopS_cons (e1 := eR a b c (sgsD cs) n rs (some (.im d)) x5 x6) (by rfl) ht]
      exact g5
theorem runB3 {n : Nat} {g : EM FD.Flow} {m0 m1 m : M} {d d' : D} {e' : FD.Env} (h : g (some m0 :: some (.im d) :: some (.im d') :: List.replicate n none) = .ok (.ret m) e') (h2 : e'[0]? = some (some m1)) : defF 3 (n + 3) [0] g [m0, .im d, .im d'] = .ok m [m1, .im d, .im d'] := by
  simp [FD.ret, FD.lif, FD.bnd, FD.var, FD.bin, FD.un, FD.tst, FD.andT, FD.orT, FD.notT, FD.andV, FD.orV, FD.notV, FD.ifE, FD.nilA, FD.consA, FD.tupE, FD.lstE, FD.seqS, FD.exprS, FD.retS, FD.retM, FD.ifS, FD.stoM, FD.setS, FD.setM, FD.gN, FD.gsNil, FD.gsCons, FD.gT, FD.goS, FD.asgS, FD.parS, FD.augS, FD.itE, FD.itA, FD.cbE, FD.slE, FD.intE, FD.arN, FD.arD, FD.arB, FD.callD, FD.callM, FD.slotsOf, FD.argM, FD.putB, FD.isIm, FD.endF, FD.backs, FD.args0, FD.defF, FD.chn, FD.lstM, FD.dtM, FD.dkM, FD.imM, FD.frzE, FD.has, FD.chk, FD.pk, FD.pkLen, FD.peekD, FD.pkL, FD.pkR, defF, args0, h, endF, backs, h2]
theorem rules_at {a b c : Int} {cs : List Nat} {n : Nat} (h1 : 1 ≤ cs.length) (hl : cs.length ≤ 100) (hcs : ∀ x ∈ cs, isLet x = true) (hn : n ≤ 80) (hb : 0 ≤ b) (hb2 : b < 500000) : ∃ (a' b' : Int) (rs : List Ru), okBo rs ∧ rs.length = n ∧ b ≤ b' ∧ b' ≤ b + 8 * n ∧ f_law_rules [stM a b c, .im (sgsD cs), .im (.int (n : Nat))] = .ok (.im (boD rs)) [stM a' b' c, .im (sgsD cs), .im (.int (n : Nat))] := by
  obtain ⟨a', b', rs, y4, y5, y6, g1, g2, g3, g4, g5⟩ := rules_loop2 (c := c) (n := .int (n : Nat)) h1 hl hcs ((List.range n).map fun k => PyData.int (k : Nat)) a b [] none none none (fun r hr => by cases hr) (by simp; exact hn) hb (by simp; omega)
  refine ⟨a', b', rs, ⟨g1, by rw [g2]; simp; exact hn⟩, by rw [g2]; simp, g3, by simpa using g4, ?_⟩
  let e0 : FD.Env := [some (stM a b c), some (.im (sgsD cs)), some (.im (.int (n : Nat))), none, none, none, none]
  let eF : FD.Env := [some (stM a' b' c), some (.im (sgsD cs)), some (.im (.int (n : Nat))), some (.im (.list (rs.map ruD))), y4, y5, y6]
  have hv : var 3 (eR a' b' c (sgsD cs) (.int (n : Nat)) rs y4 y5 y6) = .ok (.list (rs.map ruD)) eF := by
    have := toD_ls rs
    unfold eR lsM
    unfold lsM at this
    simp only [var, List.getElem?_cons_succ, List.getElem?_cons_zero, this]
    rfl
  have b1 : g_law_rules e0 = .ok (.ret (.im (boD rs))) eF := by
    have s0 : setM 3 (lstM nilA) e0 = .ok .nxt (eR a b c (sgsD cs) (.int (n : Nat)) [] none none none) := by unfold setM; rw [bnd_eq (a := lsM []) (e1 := e0) (by rfl)]; rfl
    unfold g_law_rules
    rw [seqS_nxt s0]
    rw [seqS_nxt (e' := eR a' b' c (sgsD cs) (.int (n : Nat)) rs y4 y5 y6) (by
      have hc : consA (var 2) nilA (eR a b c (sgsD cs) (.int (n : Nat)) [] none none none) = .ok [.int (n : Nat)] (eR a b c (sgsD cs) (.int (n : Nat)) [] none none none) := consA_eq (e1 := eR a b c (sgsD cs) (.int (n : Nat)) [] none none none) rfl rfl
      rw [forS_eq (itA_eq hc (rng1_nat (n := n) (by omega)))]
      exact g5)]
    exact ret_eq (cbE_eq (consA_eq hv (by rfl)) (by rfl))
  exact runB3 (n := 4) b1 rfl
theorem stream_at {x k : Int} (h0 : 0 ≤ k) (h1 : k ≤ 1000) : ∃ a c : Int, f_law_stream [.im (.int x), .im (.int k)] = .ok (stM a 0 c) [.im (.int x), .im (.int k)] := by
  obtain ⟨r, _, _, hm⟩ := mixed_at (a := x) (k := k) h0 (by omega)
  let e : FD.Env := [some (.im (.int x)), some (.im (.int k))]
  have t : tst (FD.bin geI (var 0) (FD.bin powD (FD.ret (.int 10)) (FD.ret (.int 18)))) e = .ok (decide ((1000000000000000000 : Int) ≤ x)) e := tst_eq (bin_eq (by rfl) (by rfl) geI_int)
  have f : ∃ a : Int, ifE (tst (FD.bin geI (var 0) (FD.bin powD (FD.ret (.int 10)) (FD.ret (.int 18))))) (var 0) (FD.ret (.int 0)) e = .ok (.int a) e := by
    unfold ifE
    rw [bnd_eq t]
    cases decide ((1000000000000000000 : Int) ≤ x) with
    | true => exact ⟨x, rfl⟩
    | false => exact ⟨0, rfl⟩
  obtain ⟨a, f⟩ := f
  refine ⟨a, r, ?_⟩
  have b1 : g_law_stream e = .ok (.ret (stM a 0 r)) e := by
    unfold g_law_stream retM
    rw [bnd_eq (a := stM a 0 r) (e1 := e) (by
      unfold lstM
      rw [bnd_eq (consA_eq f (consA_eq ret_at (consA_eq (call2 (by rfl) (by rfl) hm (by rfl)) (by rfl))))]
      rfl)]
    rfl
  exact run2 (n := 0) b1
end FDL
namespace FDL
open PySem L2 FD
theorem stream_wp {x k : Int} {K : M → List M → Prop} (h0 : 0 ≤ k) (h1 : k ≤ 1000) (h : ∀ a c, K (stM a 0 c) [.im (.int x), .im (.int k)]) : wpR (f_law_stream [.im (.int x), .im (.int k)]) K := by
  obtain ⟨a, c, e⟩ := stream_at (x := x) h0 h1
  rw [e, wpR_ok]
  exact h a c
theorem take_wp {a b c m : Int} {K : M → List M → Prop} (hm : 0 < m) (hm2 : m < 1073741824) (hb : 0 ≤ b) (hb2 : b < 900000) (h : ∀ r a', 0 ≤ r → r < m → K (.im (.int r)) [stM a' (b + 1) c, .im (.int m)]) : wpR (f_law_take [stM a b c, .im (.int m)]) K := by
  obtain ⟨r, a', h0, h1, e⟩ := take_at (a := a) (c := c) hm hm2 hb hb2
  rw [e, wpR_ok]
  exact h r a' h0 h1
theorem signs_wp {a b c n : Int} {K : M → List M → Prop} (hn0 : 0 ≤ n) (hn : n ≤ 100) (hb : 0 ≤ b) (hb2 : b < 800000) (h : ∀ a' (cs : List Nat), (cs.length : Int) = n → (∀ x ∈ cs, isLet x = true) → K (.im (sgsD cs)) [stM a' (b + 2) c, .im (.int n)]) : wpR (f_law_signs [stM a b c, .im (.int n)]) K := by
  obtain ⟨k, rfl⟩ := Int.eq_ofNat_of_zero_le hn0
  obtain ⟨a', cs, h1, h2, e⟩ := signs_at (a := a) (c := c) (n := k) (by omega) hb hb2
  rw [e, wpR_ok]
  have hh := h a' cs (by omega) h2
  exact hh
theorem rules_wp {a b c n : Int} {cs : List Nat} {K : M → List M → Prop} (h1 : 1 ≤ cs.length) (hl : cs.length ≤ 100) (hcs : ∀ x ∈ cs, isLet x = true) (hn0 : 0 ≤ n) (hn : n ≤ 80) (hb : 0 ≤ b) (hb2 : b < 500000)
    (h : ∀ a' b' (rs : List Ru), okBo rs → (rs.length : Int) = n → b ≤ b' → b' ≤ b + 8 * n → K (.im (boD rs)) [stM a' b' c, .im (sgsD cs), .im (.int n)]) : wpR (f_law_rules [stM a b c, .im (sgsD cs), .im (.int n)]) K := by
  obtain ⟨k, rfl⟩ := Int.eq_ofNat_of_zero_le hn0
  have q := rules_at (a := a) (c := c) (n := k) h1 hl hcs (by omega) hb hb2
  refine Exists.elim q fun a' q => ?_
  refine Exists.elim q fun b' q => ?_
  refine Exists.elim q fun rs q => ?_
  have g1 := q.1
  have g2 := q.2.1
  have g3 := q.2.2.1
  have g4 := q.2.2.2.1
  have e := q.2.2.2.2
  rw [e, wpR_ok]
  exact h a' b' rs g1 (by omega) g3 g4
theorem cells_cut {ns : List Int} (k : Nat) : slD (.list (ns.map PyData.int ++ [.int 0])) none (some (k : Int)) = some (.list (((ns ++ [0]).take k).map PyData.int)) := by
  show some (PyData.list (cutD _ none (some ((k : Nat) : Int)))) = _
  rw [cut_hi, List.map_take, List.map_append]
  rfl
theorem enum_ints (ns : List Int) : enumDs (ns.map PyData.int) = ns.zipIdx.map fun q => PyData.tuple [.int (q.2 : Nat), .int q.1] := by
  unfold enumDs
  rw [List.zipIdx_map, List.map_map]
  rfl
theorem cells_mem {ns : List Int} {k : Nat} {q : Int × Nat} (h : q ∈ ((ns ++ [0]).take k).zipIdx) : q.2 < k := by
  have := List.snd_lt_of_mem_zipIdx h
  rw [List.length_take] at this
  omega
end FDL
namespace FDL
open PySem L2 FD
@[simp] theorem wp_gT_ru {u : List D → EM Unit} {r : Ru} {e : FD.Env} {Q : Unit → FD.Env → Prop} {E : EX} : wp (gT 4 u (ruD r)) e Q E = wp (u [.str (sg r.a), .str (sg r.l), .str (sg r.b), .int r.p]) e Q E := by
  unfold ruD; simp
@[simp] theorem ix_ru0 {r : Ru} : ixA (ruD r) (.int 0) = some (.str (sg r.a)) := rfl
@[simp] theorem ix_ru1 {r : Ru} : ixA (ruD r) (.int 1) = some (.str (sg r.l)) := rfl
@[simp] theorem ix_ru2 {r : Ru} : ixA (ruD r) (.int 2) = some (.str (sg r.b)) := rfl
@[simp] theorem ix_ru3 {r : Ru} : ixA (ruD r) (.int 3) = some (.int r.p) := rfl
@[simp] theorem ix_ca0 {r : Ca} : ixA (caD r) (.int 0) = some (.str (sg r.a)) := rfl
@[simp] theorem ix_ca1 {r : Ca} : ixA (caD r) (.int 1) = some (.str (sg r.l)) := rfl
@[simp] theorem ix_ca2 {r : Ca} : ixA (caD r) (.int 2) = some (.str (sg r.b)) := rfl
@[simp] theorem itX_bo {rs : List Ru} : itX (boD rs) = some (rs.map ruD) := rfl
@[simp] theorem len_bo {rs : List Ru} : lenD [boD rs] = some (.int rs.length) := by unfold boD; simp
@[simp] theorem add_bo {a b : List Ru} : addD (boD a) (boD b) = if few (a.length + b.length) then some (boD (a ++ b)) else none := by unfold boD; simp
def okC (c : Ca) : Bool := (isLet c.a || 60 == c.a) && isLet c.l && (isLet c.b || 62 == c.b)
theorem let_ne {c : Nat} (h : isLet c = true) : c ≠ 42 ∧ c ≠ 60 ∧ c ≠ 62 := by
  simp only [isLet, Bool.and_eq_true, decide_eq_true_eq] at h
  omega
theorem need_case_at {c : Ca} (h : okC c = true) : fneed_case [.im (caD c)] = .ok (.im .none) [.im (caD c)] := by
  simp only [okC, Bool.and_eq_true, Bool.or_eq_true, beq_iff_eq] at h
  obtain ⟨⟨h1, h2⟩, h3⟩ := h
  have c1 : c.a ∈ codes := by rcases h1 with h | h; exact codes_let h; rw [← h]; decide
  have c3 : c.b ∈ codes := by rcases h3 with h | h; exact codes_let h; rw [← h]; decide
  have e1 := is_side_at (e := 60) c1
  have e2 := is_letter_at (codes_let h2)
  have e3 := is_side_at (e := 62) c3
  have t1 : (isLet c.a || (60 == c.a || 42 == c.a)) = true := by rcases h1 with h | h <;> simp [h]
  have t3 : (isLet c.b || (62 == c.b || 42 == c.b)) = true := by rcases h3 with h | h <;> simp [h]
  rw [t1] at e1
  rw [h2] at e2
  rw [t3] at e3
  have n1 : (c.a == 42) = false := by rw [beq_eq_false_iff_ne]; rcases h1 with h | h; exact (let_ne h).1; omega
  have n3 : (c.b == 42) = false := by rw [beq_eq_false_iff_ne]; rcases h3 with h | h; exact (let_ne h).1; omega
  apply wpR_eq
  unfold fneed_case
  refine wpR_def rfl ?_
  simp [gneed_case, args0, caD, first_sg, last_sg, star_sg, e1, e2, e3, n1, n3]
def costs (rs : List Ru) (c : Ca) : List Int := (rs.filter fun r => fits r c).map (·.p)
def optD : Option Int → D
  | none => .none
  | some i => .int i
theorem ints_map (ns : List Int) : intsOf (ns.map PyData.int) = some ns := by
  induction ns with
  | nil => rfl
  | cons b bs ih =>
    show (intsOf (bs.map PyData.int)).map (b :: ·) = _
    rw [ih]
    rfl
theorem min_ints (ns : List Int) : minD [.list (ns.map PyData.int)] = (minI ns).map .int := by
  show (intsOf (ns.map PyData.int)).bind _ = _
  rw [ints_map]
  rfl
theorem gd_int {i : Int} (h0 : 0 ≤ i) (h1 : i < 1000) : Gd 0 10 (.int i) := by
  obtain ⟨n, hn⟩ := Int.eq_ofNat_of_zero_le h0
  rw [hn]
  exact gd_nat (by omega)
theorem ne_ints {ns : List Int} (h : ∀ n ∈ ns, 0 ≤ n ∧ n < 1000) : neD (.list (ns.map PyData.int)) (.list []) = some (.bool (!ns.isEmpty)) := by
  have s1 := (gd_list (k := 0) (W := 10) (ds := ns.map PyData.int) fun d hd => by
    obtain ⟨g, h1, rfl⟩ := List.mem_map.mp hd
    exact gd_int (h g h1).1 (h g h1).2).shp (by decide)
  have : eqOk (.list (ns.map PyData.int)) (.list []) = true := by
    unfold eqOk
    rw [s1]
    simp
    exact .inr rfl
  unfold neD
  rw [if_pos this]
  cases ns <;> rfl
theorem ok_price {r : Ru} (h : okR r = true) : 0 ≤ r.p ∧ r.p < 1000 := by
  simp only [okR, Bool.and_eq_true, decide_eq_true_eq] at h
  omega
theorem costs_ok {rs : List Ru} {c : Ca} (h : ∀ r ∈ rs, okR r = true) : ∀ n ∈ costs rs c, 0 ≤ n ∧ n < 1000 := fun n hn => by
  obtain ⟨r, hr, rfl⟩ := List.mem_map.mp hn
  exact ok_price (h r (List.mem_filter.mp hr).1)
theorem price_there_at {rs : List Ru} {c : Ca} (h : okBo rs) : fprice_there [.im (boD rs), .im (caD c)] = .ok (.im (optD (minI (costs rs c)))) [.im (boD rs), .im (caD c)] := by
  have hl := h.2
  apply wpR_eq
  unfold fprice_there
  refine wpR_def rfl ?_
  simp [gprice_there, args0, boD]
  refine comp_all (fun r => fits r c) (fun r => .int r.p) rfl rfl rfl (by omega) (fun r hr => ?_) ?_
  · have := fits_at (r := r) (c := c)
    simp [this, wipeE]
    cases hf : fits r c <;> simp [ruD, imAt, wipeE]
  · rw [show ((rs.filter fun r => fits r c).map fun r => PyData.int r.p) = (costs rs c).map PyData.int by simp [costs]]
    have e1 := ne_ints (costs_ok (c := c) h.1)
    have e2 := min_ints (costs rs c)
    cases hc : costs rs c with
    | nil =>
      rw [hc] at e1
      simp [minI, optD] at e1 ⊢
      simp [e1]
    | cons n ns =>
      rw [hc] at e1 e2
      simp only [List.map_cons] at e1 e2
      simp [e1, e2, minI, optD]
theorem price_at {rs : List Ru} {c : Ca} (h : okBo rs) (hc : okC c = true) : fprice [.im (boD rs), .im (caD c)] = .ok (.im (optD (minI (costs rs c)))) [.im (boD rs), .im (caD c)] := by
  have e1 := need_book_at h
  have e2 := need_case_at hc
  have e3 := price_there_at (c := c) h
  apply wpR_eq
  unfold fprice
  refine wpR_def rfl ?_
  simp [gprice, args0, e1, e2, e3]
theorem toD_ims {ds : List D} : (M.ls (ds.map .im)).toD = some (.list ds) := by
  show (imAll (ds.map .im)).map _ = _
  rw [imAll_im]
  rfl
end FDL
namespace FDL
open PySem L2 FD
@[simp] theorem ix20 {a b : D} : ixA (.tuple [a, b]) (.int 0) = some a := rfl
@[simp] theorem ix21 {a b : D} : ixA (.tuple [a, b]) (.int 1) = some b := rfl
end FDL
namespace FDL
open PySem L2 FD
theorem getDD_tb {c : Ca} {tb : Tb} : getDD (tb.map fun q => (caD q.1, PyData.int q.2)) (caD c) = some ((lookK tb c).map PyData.int) := by
  have h : getDD (tb.map fun q => (caD q.1, PyData.int q.2)) (caD c) = (dictT (tb.map fun q => (caD q.1, PyData.int q.2))).map fun l => lookK l (caK c) := rfl
  rw [h, dictT_tb, Option.map_some, look_row]
@[simp] theorem in_tb {c : Ca} {tb : Tb} : inA (caD c) (tbD tb) = some (.bool (lookK tb c).isSome) := by
  show (getDD _ _).map _ = _
  rw [getDD_tb]
  simp
@[simp] theorem itX_tb {tb : Tb} : itX (tbD tb) = some (tb.map fun q => caD q.1) := by
  have k : ktB (tb.map fun q => (caD q.1, PyData.int q.2)) = false := by cases tb <;> rfl
  unfold tbD
  simp [k]
@[simp] theorem len_tb {tb : Tb} : lenD [tbD tb] = some (.int tb.length) := by
  have k : qKB (tb.map fun q => (caD q.1, PyData.int q.2)) = false := by cases tb <;> rfl
  unfold tbD lenD
  simp [k]
theorem table_len (rs : List Ru) : (table rs).length ≤ rs.length * 729 := by
  have : ∀ (rs : List Ru) (tb : Tb), (rs.foldl putR tb).length ≤ tb.length + rs.length * 729 := by
    intro rs
    induction rs with
    | nil => intro tb; simp
    | cons r rs ih =>
      intro tb
      have h1 := ih (putR tb r)
      have h2 : (putR tb r).length ≤ tb.length + (casesOf r).length := putC_len _ _
      have h3 := cases_len r
      rw [List.foldl_cons, List.length_cons]
      omega
  unfold table
  simpa using this rs []
def within (a b : List Ru) : Bool := (table a).all fun q => (lookK (table b) q.1).isSome
theorem is_within_at {a b : List Ru} (ha : okBo a) (hb : okBo b) : fis_within [.im (boD a), .im (boD b)] = .ok (.im (.bool (within a b))) [.im (boD a), .im (boD b)] := by
  have t1 := two_tables_at ha hb
  have hl := table_len a
  have := ha.2
  apply wpR_eq
  unfold fis_within
  refine wpR_def rfl ?_
  simp [gis_within, args0, t1]
  refine comp_map (fun q => .bool (lookK (table b) q.1).isSome) rfl rfl rfl (by omega) (fun q hq => ?_) ?_
  · simp [wipeE, imAt]
  · have := all_bools ((table a).map fun q => (lookK (table b) q.1).isSome)
    rw [show ((table a).map fun q => (lookK (table b) q.1).isSome).all id = within a b by simp [within], List.map_map] at this
    have e : ((table a).map fun q => PyData.bool (lookK (table b) q.1).isSome) = (table a).map (PyData.bool ∘ fun q => (lookK (table b) q.1).isSome) := rfl
    rw [e]
    simp [this]
theorem within_iff {a b : List Ru} : within a b = true ↔ ∀ c, (best a c).isSome = true → (best b c).isSome = true := by
  unfold within
  rw [List.all_eq_true]
  constructor
  · intro h c hc
    obtain ⟨v, hv⟩ := Option.isSome_iff_exists.mp hc
    rw [← look_table] at hv ⊢
    exact h _ (lookK_in hv)
  · intro h q hq
    have := look_mem (table_nodup a [] (by simp)) (show (q.1, q.2) ∈ table a from hq)
    have h2 := h q.1 (by rw [← look_table]; show (lookK (table a) q.1).isSome = true; unfold table; rw [this]; rfl)
    rw [look_table]
    exact h2
end FDL
namespace FDL
open PySem L2 FD
def codeS (s : Str) : Nat := s.cps.getD 0 0
@[simp] theorem itX_sgs {cs : List Nat} : itX (sgsD cs) = some (cs.map fun c => .str (sg c)) := rfl
@[simp] theorem add_sgs {c : Nat} {cs : List Nat} : addD (.list [.str (sg c)]) (sgsD cs) = if few (1 + cs.length) then some (sgsD (c :: cs)) else none := by
  unfold sgsD; simp
end FDL
namespace FDL
open PySem L2 FD
theorem fits_ok {o : Ru} {c : Ca} (hc : okC c = true) : fits o c = true ↔ c ∈ casesOf o := by
  simp only [okC, Bool.and_eq_true, Bool.or_eq_true, beq_iff_eq] at hc
  obtain ⟨⟨h1, h2⟩, h3⟩ := hc
  have n1 : c.a ≠ 42 := by rcases h1 with h | h; exact (let_ne h).1; omega
  have n3 : c.b ≠ 42 := by rcases h3 with h | h; exact (let_ne h).1; omega
  rw [mem_cases, side_iff n1 (h1.elim .inr fun h => .inl h.symm), side_iff n3 (h3.elim .inr fun h => .inl h.symm)]
  unfold fits
  rw [Bool.and_eq_true, Bool.and_eq_true, beq_iff_eq]
  constructor
  · rintro ⟨a, b, d⟩; exact ⟨b, a.symm, d⟩
  · rintro ⟨a, b, d⟩; exact ⟨b.symm, a, d⟩
theorem minI_spec : ∀ l : List Int, (minI l = none ∧ l = []) ∨ ∃ v, minI l = some v ∧ v ∈ l ∧ ∀ x ∈ l, v ≤ x
  | [] => .inl ⟨rfl, rfl⟩
  | n :: ns => .inr ⟨_, rfl, (foldl_min_mem ns n).elim (fun e => by rw [e]; exact List.mem_cons_self) (List.mem_cons_of_mem _), fun x hx => (List.mem_cons.mp hx).elim (fun e => by rw [e]; exact (foldl_min_le ns n).1) ((foldl_min_le ns n).2 x)⟩
theorem cost_best {rs : List Ru} {c : Ca} (hc : okC c = true) : minI (costs rs c) = best rs c := by
  rcases minI_spec (costs rs c) with ⟨h1, h2⟩ | ⟨v, h1, h2, h3⟩
  · rw [h1]
    refine (best_eq_none fun r hr hm => ?_).symm
    have : r.p ∈ costs rs c := List.mem_map.mpr ⟨r, List.mem_filter.mpr ⟨hr, (fits_ok hc).mpr hm⟩, rfl⟩
    rw [h2] at this
    cases this
  · rw [h1]
    obtain ⟨r, hr, e⟩ := List.mem_map.mp h2
    obtain ⟨hr1, hr2⟩ := List.mem_filter.mp hr
    exact (best_eq_some ⟨r, hr1, (fits_ok hc).mp hr2, e⟩ fun s hs hm => h3 s.p (List.mem_map.mpr ⟨s, List.mem_filter.mpr ⟨hs, (fits_ok hc).mpr hm⟩, rfl⟩)).symm
end FDL
namespace FDL
open PySem L2 FD
def coverS (r o : Ru) : Bool := (r.a == o.a || 42 == o.a) && (r.b == o.b || 42 == o.b)
def othersOf (rs : List Ru) (n : Nat) (r : Ru) : List Ru := (without rs n).filter fun o => o.l == r.l && decide (o.p ≤ r.p)
def isN (rs : List Ru) (n : Nat) (r : Ru) : Bool := (othersOf rs n r).any (coverS r) || (casesOf r).all fun c => (othersOf rs n r).any fun o => fits o c
theorem is_needless_at {rs : List Ru} {n : Nat} {r : Ru} (hl : rs.length ≤ 80) (hr : rs[n]? = some r) : fis_needless [.im (boD rs), .im (.int (n : Nat))] = .ok (.im (.bool (isN rs n r))) [.im (boD rs), .im (.int (n : Nat))] := by
  have ix : ixA (boD rs) (.int (n : Nat)) = some (ruD r) := by
    show atI (rs.map ruD) (n : Int) = _
    have hn : n < rs.length := (List.getElem?_eq_some_iff.mp hr).1
    unfold atI ixN
    rw [if_pos (by omega), if_pos (by rw [List.length_map]; omega)]
    show (rs.map ruD)[(n : Int).toNat]? = _
    rw [Int.toNat_natCast, List.getElem?_map, hr]
    rfl
  let O := othersOf rs n r
  have hO : O.length ≤ 80 := by
    refine Nat.le_trans (List.length_filter_le _ _) ?_
    have : (without rs n).length ≤ rs.length := by unfold without; rw [List.length_append, List.length_take, List.length_drop]; omega
    omega
  let e2 : FD.Env := [some (.im (boD rs)), some (.im (.int (n : Nat))), some (.im (ruD r)), none, none, none]
  let e3 : FD.Env := [some (.im (boD rs)), some (.im (.int (n : Nat))), some (.im (ruD r)), some (.im (.list (O.map ruD))), none, none]
  have c1 : compE [4] (itE itX (FD.bin addD (slE (var 0) (FD.ret none) (intE (var 1))) (slE (var 0) (intE (FD.bin addD (var 1) (FD.ret (.int 1)))) (FD.ret none)))) (gN 4) (andT (tst (FD.bin eqA (FD.bin ixA (var 4) (FD.ret (.int 1))) (FD.bin ixA (var 2) (FD.ret (.int 1))))) (tst (FD.bin leI (FD.bin ixA (var 4) (FD.ret (.int 3))) (FD.bin ixA (var 2) (FD.ret (.int 3)))))) (var 4) e2 = .ok (.list (O.map ruD)) e2 := by
    rw [comp1 (ds := (without rs n).map ruD) (b := onRu fun o => o.l == r.l && decide (o.p ≤ r.p)) (f := id) (by simp [FD.ret, FD.lif, FD.bnd, FD.var, FD.bin, FD.un, FD.tst, FD.andT, FD.orT, FD.notT, FD.andV, FD.orV, FD.notV, FD.ifE, FD.nilA, FD.consA, FD.tupE, FD.lstE, FD.seqS, FD.exprS, FD.retS, FD.retM, FD.ifS, FD.stoM, FD.setS, FD.setM, FD.gN, FD.gsNil, FD.gsCons, FD.gT, FD.goS, FD.asgS, FD.parS, FD.augS, FD.itE, FD.itA, FD.cbE, FD.slE, FD.intE, FD.arN, FD.arD, FD.arB, FD.callD, FD.callM, FD.slotsOf, FD.argM, FD.putB, FD.isIm, FD.endF, FD.backs, FD.args0, FD.defF, FD.chn, FD.lstM, FD.dtM, FD.dkM, FD.imM, FD.frzE, FD.has, FD.chk, FD.pk, FD.pkLen, FD.peekD, FD.pkL, FD.pkR, e2]) rfl (itE_eq (slices_at (by omega) rfl rfl) rfl) (by rw [List.length_map]; unfold without; rw [List.length_append, List.length_take, List.length_drop]; omega) ?_]
    · rw [filter_ru, List.map_id]
      rfl
    · intro d hd
      obtain ⟨o, _, rfl⟩ := List.mem_map.mp hd
      refine ⟨?_, fun _ => rfl⟩
      rw [onRu_at]
      cases h : o.l == r.l <;> simp [FD.ret, FD.lif, FD.bnd, FD.var, FD.bin, FD.un, FD.tst, FD.andT, FD.orT, FD.notT, FD.andV, FD.orV, FD.notV, FD.ifE, FD.nilA, FD.consA, FD.tupE, FD.lstE, FD.seqS, FD.exprS, FD.retS, FD.retM, FD.ifS, FD.stoM, FD.setS, FD.setM, FD.gN, FD.gsNil, FD.gsCons, FD.gT, FD.goS, FD.asgS, FD.parS, FD.augS, FD.itE, FD.itA, FD.cbE, FD.slE, FD.intE, FD.arN, FD.arD, FD.arB, FD.callD, FD.callM, FD.slotsOf, FD.argM, FD.putB, FD.isIm, FD.endF, FD.backs, FD.args0, FD.defF, FD.chn, FD.lstM, FD.dtM, FD.dkM, FD.imM, FD.frzE, FD.has, FD.chk, FD.pk, FD.pkLen, FD.peekD, FD.pkL, FD.pkR, e2, ruD, h]
  have c2 : compE [4] (itE itX (var 3)) (gN 4) (FD.ret true) (andV (FD.bin inA (FD.bin ixA (var 4) (FD.ret (.int 0))) (tupE (consA (FD.bin ixA (var 2) (FD.ret (.int 0))) (consA (FD.ret (.str "*")) nilA)))) (FD.bin inA (FD.bin ixA (var 4) (FD.ret (.int 2))) (tupE (consA (FD.bin ixA (var 2) (FD.ret (.int 2))) (consA (FD.ret (.str "*")) nilA))))) e3 = .ok (.list ((O.map (coverS r)).map PyData.bool)) e3 := by
    rw [comp1 (ds := O.map ruD) (b := fun _ => true) (f := fun d => .bool (onRu (coverS r) d)) (by simp [FD.ret, FD.lif, FD.bnd, FD.var, FD.bin, FD.un, FD.tst, FD.andT, FD.orT, FD.notT, FD.andV, FD.orV, FD.notV, FD.ifE, FD.nilA, FD.consA, FD.tupE, FD.lstE, FD.seqS, FD.exprS, FD.retS, FD.retM, FD.ifS, FD.stoM, FD.setS, FD.setM, FD.gN, FD.gsNil, FD.gsCons, FD.gT, FD.goS, FD.asgS, FD.parS, FD.augS, FD.itE, FD.itA, FD.cbE, FD.slE, FD.intE, FD.arN, FD.arD, FD.arB, FD.callD, FD.callM, FD.slotsOf, FD.argM, FD.putB, FD.isIm, FD.endF, FD.backs, FD.args0, FD.defF, FD.chn, FD.lstM, FD.dtM, FD.dkM, FD.imM, FD.frzE, FD.has, FD.chk, FD.pk, FD.pkLen, FD.peekD, FD.pkL, FD.pkR, e3]) (by rfl) (by rfl) (by rw [List.length_map]; omega) ?_]
    · rw [filt_true, List.map_map, List.map_map]
      rfl
    · intro d hd
      obtain ⟨o, _, rfl⟩ := List.mem_map.mp hd
      refine ⟨rfl, fun _ => ?_⟩
      rw [onRu_at]
      unfold coverS
      cases h : (r.a == o.a || 42 == o.a) <;> simp [FD.ret, FD.lif, FD.bnd, FD.var, FD.bin, FD.un, FD.tst, FD.andT, FD.orT, FD.notT, FD.andV, FD.orV, FD.notV, FD.ifE, FD.nilA, FD.consA, FD.tupE, FD.lstE, FD.seqS, FD.exprS, FD.retS, FD.retM, FD.ifS, FD.stoM, FD.setS, FD.setM, FD.gN, FD.gsNil, FD.gsCons, FD.gT, FD.goS, FD.asgS, FD.parS, FD.augS, FD.itE, FD.itA, FD.cbE, FD.slE, FD.intE, FD.arN, FD.arD, FD.arB, FD.callD, FD.callM, FD.slotsOf, FD.argM, FD.putB, FD.isIm, FD.endF, FD.backs, FD.args0, FD.defF, FD.chn, FD.lstM, FD.dtM, FD.dkM, FD.imM, FD.frzE, FD.has, FD.chk, FD.pk, FD.pkLen, FD.peekD, FD.pkL, FD.pkR, e3, ruD, star_sg, h]
  have t1 : tst (cbE anyD (consA (compE [4] (itE itX (var 3)) (gN 4) (FD.ret true) (andV (FD.bin inA (FD.bin ixA (var 4) (FD.ret (.int 0))) (tupE (consA (FD.bin ixA (var 2) (FD.ret (.int 0))) (consA (FD.ret (.str "*")) nilA)))) (FD.bin inA (FD.bin ixA (var 4) (FD.ret (.int 2))) (tupE (consA (FD.bin ixA (var 2) (FD.ret (.int 2))) (consA (FD.ret (.str "*")) nilA)))))) nilA)) e3 = .ok (O.any (coverS r)) e3 := by
    refine tst_eq (cbE_eq (consA_eq c2 rfl) ?_)
    rw [any_bools, List.any_map]
    rfl
  have c3 : compE [5] (itE itX (callD frule_cases (arD (var 2) arN))) (gN 5) (FD.ret true) (cbE anyD (consA (compE [4] (itE itX (var 3)) (gN 4) (FD.ret true) (callD ffits_case (arD (var 4) (arD (var 5) arN)))) nilA)) e3 = .ok (.list (((casesOf r).map fun c => O.any fun o => fits o c).map PyData.bool)) e3 := by
    rw [comp1 (ds := (casesOf r).map caD) (b := fun _ => true) (f := fun d => .bool (onCa (fun c => O.any fun o => fits o c) d)) (by simp [FD.ret, FD.lif, FD.bnd, FD.var, FD.bin, FD.un, FD.tst, FD.andT, FD.orT, FD.notT, FD.andV, FD.orV, FD.notV, FD.ifE, FD.nilA, FD.consA, FD.tupE, FD.lstE, FD.seqS, FD.exprS, FD.retS, FD.retM, FD.ifS, FD.stoM, FD.setS, FD.setM, FD.gN, FD.gsNil, FD.gsCons, FD.gT, FD.goS, FD.asgS, FD.parS, FD.augS, FD.itE, FD.itA, FD.cbE, FD.slE, FD.intE, FD.arN, FD.arD, FD.arB, FD.callD, FD.callM, FD.slotsOf, FD.argM, FD.putB, FD.isIm, FD.endF, FD.backs, FD.args0, FD.defF, FD.chn, FD.lstM, FD.dtM, FD.dkM, FD.imM, FD.frzE, FD.has, FD.chk, FD.pk, FD.pkLen, FD.peekD, FD.pkL, FD.pkR, e3]) (by rfl) (itE_eq (call1 (by rfl) rule_cases_at (by rfl)) (by rfl)) (by rw [List.length_map]; have := cases_len r; omega) ?_]
    · rw [filt_true, List.map_map, List.map_map]
      rfl
    · intro d hd
      obtain ⟨c, _, rfl⟩ := List.mem_map.mp hd
      refine ⟨rfl, fun _ => ?_⟩
      rw [onCa_at]
      let e5 : FD.Env := [some (.im (boD rs)), some (.im (.int (n : Nat))), some (.im (ruD r)), some (.im (.list (O.map ruD))), none, some (.im (caD c))]
      have ce : compE [4] (itE itX (var 3)) (gN 4) (FD.ret true) (callD ffits_case (arD (var 4) (arD (var 5) arN))) e5 = .ok (.list ((O.map fun o => fits o c).map PyData.bool)) e5 := by
        rw [comp1 (ds := O.map ruD) (b := fun _ => true) (f := fun d => .bool (onRu (fun o => fits o c) d)) (by simp [FD.ret, FD.lif, FD.bnd, FD.var, FD.bin, FD.un, FD.tst, FD.andT, FD.orT, FD.notT, FD.andV, FD.orV, FD.notV, FD.ifE, FD.nilA, FD.consA, FD.tupE, FD.lstE, FD.seqS, FD.exprS, FD.retS, FD.retM, FD.ifS, FD.stoM, FD.setS, FD.setM, FD.gN, FD.gsNil, FD.gsCons, FD.gT, FD.goS, FD.asgS, FD.parS, FD.augS, FD.itE, FD.itA, FD.cbE, FD.slE, FD.intE, FD.arN, FD.arD, FD.arB, FD.callD, FD.callM, FD.slotsOf, FD.argM, FD.putB, FD.isIm, FD.endF, FD.backs, FD.args0, FD.defF, FD.chn, FD.lstM, FD.dtM, FD.dkM, FD.imM, FD.frzE, FD.has, FD.chk, FD.pk, FD.pkLen, FD.peekD, FD.pkL, FD.pkR, e5]) (by rfl) (by rfl) (by rw [List.length_map]; omega) ?_]
        · rw [filt_true, List.map_map, List.map_map]
          rfl
        · intro d hd
          obtain ⟨o, _, rfl⟩ := List.mem_map.mp hd
          exact ⟨rfl, fun _ => call2 rfl rfl fits_at rfl⟩
      refine cbE_eq (consA_eq ce rfl) ?_
      rw [any_bools, List.any_map]
      rfl
  have b1 : gis_needless [some (.im (boD rs)), some (.im (.int (n : Nat))), none, none, none, none] = .ok (.ret (.im (.bool (isN rs n r)))) e3 := by
    unfold gis_needless
    rw [seqS_nxt (e' := e2) (setS_eq (bin_eq rfl rfl ix) (by simp))]
    rw [seqS_nxt (e' := e3) (setS_eq c1 (by simp [FD.ret, FD.lif, FD.bnd, FD.var, FD.bin, FD.un, FD.tst, FD.andT, FD.orT, FD.notT, FD.andV, FD.orV, FD.notV, FD.ifE, FD.nilA, FD.consA, FD.tupE, FD.lstE, FD.seqS, FD.exprS, FD.retS, FD.retM, FD.ifS, FD.stoM, FD.setS, FD.setM, FD.gN, FD.gsNil, FD.gsCons, FD.gT, FD.goS, FD.asgS, FD.parS, FD.augS, FD.itE, FD.itA, FD.cbE, FD.slE, FD.intE, FD.arN, FD.arD, FD.arB, FD.callD, FD.callM, FD.slotsOf, FD.argM, FD.putB, FD.isIm, FD.endF, FD.backs, FD.args0, FD.defF, FD.chn, FD.lstM, FD.dtM, FD.dkM, FD.imM, FD.frzE, FD.has, FD.chk, FD.pk, FD.pkLen, FD.peekD, FD.pkL, FD.pkR, e2]))]
    have ei : isN rs n r = (O.any (coverS r) || (casesOf r).all fun c => O.any fun o => fits o c) := rfl
    cases h : O.any (coverS r) with
    | true =>
      rw [h] at t1 ei
      rw [seqS_ret (m := .im (.bool true)) (e' := e3) (by rw [ifS_eq t1]; rfl), ei]
      rfl
    | false =>
      rw [h] at t1 ei
      rw [seqS_nxt (e' := e3) (by rw [ifS_eq t1]; rfl), ei]
      refine ret_eq (cbE_eq (consA_eq c3 rfl) ?_)
      rw [all_bools, List.all_map]
      rfl
  simp [FD.ret, FD.lif, FD.bnd, FD.var, FD.bin, FD.un, FD.tst, FD.andT, FD.orT, FD.notT, FD.andV, FD.orV, FD.notV, FD.ifE, FD.nilA, FD.consA, FD.tupE, FD.lstE, FD.seqS, FD.exprS, FD.retS, FD.retM, FD.ifS, FD.stoM, FD.setS, FD.setM, FD.gN, FD.gsNil, FD.gsCons, FD.gT, FD.goS, FD.asgS, FD.parS, FD.augS, FD.itE, FD.itA, FD.cbE, FD.slE, FD.intE, FD.arN, FD.arD, FD.arB, FD.callD, FD.callM, FD.slotsOf, FD.argM, FD.putB, FD.isIm, FD.endF, FD.backs, FD.args0, FD.defF, FD.chn, FD.lstM, FD.dtM, FD.dkM, FD.imM, FD.frzE, FD.has, FD.chk, FD.pk, FD.pkLen, FD.peekD, FD.pkL, FD.pkR, fis_needless, b1]
end FDL
namespace FDL
open PySem L2 FD
def nl (rs : List Ru) (n : Nat) : Bool := match rs[n]? with
  | some r => isN rs n r
  | none => false
theorem nl_at {rs : List Ru} {n : Nat} (hl : rs.length ≤ 80) (hn : n < rs.length) : fis_needless [.im (boD rs), .im (.int (n : Nat))] = .ok (.im (.bool (nl rs n))) [.im (boD rs), .im (.int (n : Nat))] := by
  have hr : rs[n]? = some rs[n] := List.getElem?_eq_getElem hn
  have h := is_needless_at hl hr
  unfold nl
  rw [hr]
  exact h
end FDL
namespace FDL
open PySem L2 FD
theorem mem_signs {x a e : Nat} (h : isLet a = true ∨ a = e ∨ a = 42) (hx : x ∈ signsF a e) : isLet x = true ∨ x = e := by
  unfold signsF at hx
  split at hx
  · rcases List.mem_cons.mp hx with q | q
    · exact .inr q
    · obtain ⟨k, hk, rfl⟩ := List.mem_map.mp q
      refine .inl ?_
      have := List.mem_range.mp hk
      simp [isLet]
      omega
  · rename_i h42
    have := List.mem_singleton.mp hx
    subst this
    rcases h with h | h | h
    · exact .inl h
    · exact .inr h
    · exact absurd h h42
theorem okR_sides {r : Ru} (h : okR r = true) : (isLet r.a = true ∨ r.a = 60 ∨ r.a = 42) ∧ isLet r.l = true ∧ (isLet r.b = true ∨ r.b = 62 ∨ r.b = 42) := by
  simp only [okR, okA, okB, Bool.and_eq_true, Bool.or_eq_true, beq_iff_eq] at h
  refine ⟨?_, h.1.1.2, ?_⟩
  · rcases h.1.1.1 with q | q | q
    · exact .inl q
    · exact .inr (.inl q.symm)
    · exact .inr (.inr q.symm)
  · rcases h.1.2 with q | q | q
    · exact .inl q
    · exact .inr (.inl q.symm)
    · exact .inr (.inr q.symm)
theorem cases_ok {r : Ru} {c : Ca} (h : okR r = true) (hc : c ∈ casesOf r) : okC c = true := by
  obtain ⟨ha, hl, hb⟩ := okR_sides h
  unfold casesOf at hc
  obtain ⟨x, hx, hc⟩ := List.mem_flatMap.mp hc
  obtain ⟨y, hy, rfl⟩ := List.mem_map.mp hc
  have h1 := mem_signs ha hx
  have h2 := mem_signs hb hy
  simp only [okC, Bool.and_eq_true, Bool.or_eq_true, beq_iff_eq]
  exact ⟨⟨h1.imp id Eq.symm, hl⟩, h2.imp id Eq.symm⟩
section
variable {F : Ru → Ru} {G G' : Ca → Ca}
def keysOf (rs : List Ru) : List Ca := (table rs).map (·.1)
theorem keys_nd (rs : List Ru) : (keysOf rs).Nodup := table_nodup rs [] .nil
theorem look_some {tb : Tb} {c : Ca} : (lookK tb c).isSome = true ↔ c ∈ tb.map (·.1) := by
  rw [← lookK_any, List.any_eq_true]
  simp only [decide_eq_true_eq, List.mem_map]
theorem keys_mem {rs : List Ru} {c : Ca} : c ∈ keysOf rs ↔ ∃ r ∈ rs, c ∈ casesOf r := by
  unfold keysOf
  rw [← look_some, look_table]
  cases e : best rs c with
  | none =>
    have := best_none e
    simp only [Option.isSome_none, Bool.false_eq_true, false_iff]
    rintro ⟨r, hr, q⟩
    exact this r hr q
  | some v =>
    obtain ⟨⟨r, hr, q, _⟩, _⟩ := best_some e
    simp only [Option.isSome_some, true_iff]
    exact ⟨r, hr, q⟩
theorem keys_ok {rs : List Ru} {c : Ca} (h : ∀ r ∈ rs, okR r = true) (hc : c ∈ keysOf rs) : okC c = true := by
  obtain ⟨r, hr, q⟩ := keys_mem.mp hc
  exact cases_ok (h r hr) q
end
end FDL
namespace FDL
open PySem L2 FD
theorem how_many_at {rs : List Ru} (h : okBo rs) : fhow_many [.im (boD rs)] = .ok (.im (.int ((table rs).length : Int))) [.im (boD rs)] := by
  have n1 := need_book_at h
  have p1 := price_table_at h.2
  have l1 := len_tb (tb := table rs)
  obtain ⟨K, hK⟩ : ∃ K : Int, K = ((table rs).length : Int) := ⟨_, rfl⟩
  rw [← hK] at l1 ⊢
  apply wpR_eq
  unfold fhow_many
  refine wpR_def rfl ?_
  simp -implicitDefEqProofs [ghow_many, args0, n1, p1, l1, backs_cons, isIm]
def ndl (rs : List Ru) : List Nat := (List.range rs.length).filter (nl rs)
theorem needless_at {rs : List Ru} (h : okBo rs) : fneedless [.im (boD rs)] = .ok (.im (natsD (ndl rs))) [.im (boD rs)] := by
  have n1 := need_book_at h
  have h80 := h.2
  have l1 := len_bo (rs := rs)
  have r1 := rng1_nat (n := rs.length) (by omega)
  obtain ⟨K, hK⟩ : ∃ K : Int, K = (rs.length : Int) := ⟨_, rfl⟩
  rw [← hK] at l1 r1
  apply wpR_eq
  unfold fneedless
  refine wpR_def rfl ?_
  simp -implicitDefEqProofs [gneedless, args0, n1, l1, r1]
  refine comp_all (em := fun k : Nat => PyData.int (k : Nat)) (as := List.range rs.length) (nl rs) (fun k : Nat => PyData.int (k : Nat)) rfl rfl rfl (by rw [List.length_range]; omega) (fun k hk => ?_) ?_
  · have hk' : k < rs.length := List.mem_range.mp hk
    have e1 := nl_at h80 hk'
    obtain ⟨B, hB⟩ : ∃ B : D, B = PyData.int (k : Nat) := ⟨_, rfl⟩
    rw [← hB] at e1 ⊢
    cases hn : nl rs k with
    | true =>
      rw [hn] at e1
      simp -implicitDefEqProofs [wipeE, imAt, e1]
    | false =>
      rw [hn] at e1
      simp -implicitDefEqProofs [wipeE, imAt, e1]
  · have t1 : tupleD [.list (((List.range rs.length).filter (nl rs)).map fun k : Nat => PyData.int (k : Nat))] = some (natsD (ndl rs)) := rfl
    obtain ⟨L, hL⟩ : ∃ L, L = ((List.range rs.length).filter (nl rs)).map fun k : Nat => PyData.int (k : Nat) := ⟨_, rfl⟩
    rw [← hL] at t1 ⊢
    simp -implicitDefEqProofs [t1, backs_cons, isIm]
def caT (c : Ca) : List Str := [sg c.a, sg c.l, sg c.b]
theorem rows_ca : ∀ cs : List Ca, srowsOf (cs.map caD) = some (cs.map caT)
  | [] => rfl
  | c :: cs => by
    have := rows_ca cs
    show (match srowOf (caD c) with
      | some p => (srowsOf (cs.map caD)).map (p :: ·)
      | none => none) = _
    rw [show srowOf (caD c) = some (caT c) from rfl, this]
    rfl
theorem leTS_trans (a b c : List Str) (h1 : leTS a b = true) (h2 : leTS b c = true) : leTS a c = true :=
  decide_eq_true (List.le_trans (of_decide_eq_true h1) (of_decide_eq_true h2))
theorem leTS_total (a b : List Str) : (leTS a b || leTS b a) = true := by
  rw [Bool.or_eq_true]
  rcases List.le_total (a.map cpL) (b.map cpL) with h | h
  · exact .inl (decide_eq_true h)
  · exact .inr (decide_eq_true h)
theorem leTS_anti (a b : List Str) (h1 : leTS a b = true) (h2 : leTS b a = true) : a = b := by
  have e : a.map cpL = b.map cpL := List.le_antisymm (of_decide_eq_true h1) (of_decide_eq_true h2)
  clear h1 h2
  induction a generalizing b with
  | nil =>
    cases b with
    | nil => rfl
    | cons y b => simp at e
  | cons x a ih =>
    cases b with
    | nil => simp at e
    | cons y b =>
      simp only [List.map_cons, List.cons.injEq] at e
      rw [cpL_inj e.1, ih b e.2]
theorem srtTS_perm (xs : List (List Str)) : (srtTS xs).Perm xs := List.mergeSort_perm _ _
theorem srtTS_uniq {xs ys : List (List Str)} (p : ys.Perm xs) (h : ys.Pairwise fun a b => leTS a b = true) : ys = srtTS xs :=
  perm_uniq (r := fun a b => leTS a b = true) leTS_anti h (List.pairwise_mergeSort leTS_trans leTS_total xs) (p.trans (srtTS_perm xs).symm)
theorem srtTS_same {xs ys : List (List Str)} (p : xs.Perm ys) : srtTS xs = srtTS ys :=
  srtTS_uniq ((srtTS_perm xs).trans p) (List.pairwise_mergeSort leTS_trans leTS_total xs)
theorem srt_ca (cs : List Ca) : ∃ ss : List Ca, ss.Perm cs ∧ srtTS (cs.map caT) = ss.map caT := by
  have p := srtTS_perm (cs.map caT)
  have : ∀ {l : List (List Str)} {cs : List Ca}, l.Perm (cs.map caT) → ∃ ss : List Ca, ss.Perm cs ∧ l = ss.map caT := by
    intro l cs p
    induction l generalizing cs with
    | nil =>
      have := p.symm.eq_nil
      rw [List.map_eq_nil_iff] at this
      exact ⟨[], by rw [this], rfl⟩
    | cons x l ih =>
      obtain ⟨c, hc, hx⟩ := List.mem_map.mp (p.subset (List.mem_cons_self ..))
      have pc : cs.Perm (c :: cs.erase c) := List.perm_cons_erase hc
      have p2 : (x :: l).Perm (caT c :: (cs.erase c).map caT) := p.trans (pc.map caT)
      rw [← hx] at p2
      obtain ⟨ss, ps, e⟩ := ih ((List.perm_cons _).mp p2)
      refine ⟨c :: ss, (ps.cons c).trans pc.symm, ?_⟩
      rw [List.map_cons, e, hx]
  exact this p
end FDL
namespace FDL
open PySem L2 FD
theorem okC_codes {c : Ca} (h : okC c = true) : c.a < 128 ∧ c.l < 128 ∧ c.b < 128 := by
  simp only [okC, Bool.and_eq_true, Bool.or_eq_true, beq_iff_eq] at h
  have L : ∀ x, isLet x = true → x < 128 := fun x hx => let_lt (codes_let hx)
  refine ⟨?_, L _ h.1.2, ?_⟩
  · rcases h.1.1 with z | z
    · exact L _ z
    · omega
  · rcases h.2 with z | z
    · exact L _ z
    · omega
theorem gd_ca {c : Ca} (h : okC c = true) : Gd 1 33 (caD c) := by
  obtain ⟨h1, h2, h3⟩ := okC_codes h
  refine gd_tup (k := 0) (W := 10) (ds := [.str (sg c.a), .str (sg c.l), .str (sg c.b)]) fun d hd => ?_
  simp only [List.mem_cons, List.not_mem_nil, or_false] at hd
  rcases hd with z | z | z
  · rw [z]; exact gd_sg h1
  · rw [z]; exact gd_sg h2
  · rw [z]; exact gd_sg h3
theorem ca_eqv (c d : Ca) : PyData.eqv (caD c) (caD d) = decide (c = d) := by
  rw [Bool.eq_iff_iff, decide_eq_true_eq]
  obtain ⟨a, l, b⟩ := c
  obtain ⟨a', l', b'⟩ := d
  simp only [caD, PyData.eqv, PyData.eqvAll, Bool.and_true, Bool.and_eq_true, beq_iff_eq, Ca.mk.injEq]
  exact ⟨fun h => ⟨sg_inj h.1, sg_inj h.2.1, sg_inj h.2.2⟩, fun h => ⟨by rw [h.1], by rw [h.2.1], by rw [h.2.2]⟩⟩
theorem cas_eqv : ∀ xs ys : List Ca, PyData.eqvAll (xs.map caD) (ys.map caD) = decide (xs = ys)
  | [], [] => by simp [PyData.eqvAll]
  | [], y :: ys => by simp [PyData.eqvAll]
  | x :: xs, [] => by simp [PyData.eqvAll]
  | x :: xs, y :: ys => by
    rw [List.map_cons, List.map_cons]
    simp only [PyData.eqvAll, ca_eqv, cas_eqv xs ys]
    rw [Bool.eq_iff_iff]
    simp
theorem shp_cas {cs : List Ca} (h : ∀ c ∈ cs, okC c = true) : SeqAt.shaped (.list (cs.map caD)) = true := by
  refine (gd_list (k := 1) (W := 33) fun d hd => ?_).shp (by decide)
  obtain ⟨c, hc, rfl⟩ := List.mem_map.mp hd
  exact gd_ca (h c hc)
theorem eqA_cas {xs ys : List Ca} (hx : ∀ c ∈ xs, okC c = true) (hy : ∀ c ∈ ys, okC c = true) : eqA (.list (xs.map caD)) (.list (ys.map caD)) = some (.bool (decide (xs = ys))) := by
  show eqD _ _ = _
  unfold eqD eqOk
  rw [shp_cas hx, shp_cas hy, Bool.and_self, Bool.or_true, if_pos rfl]
  congr 2
  simp only [PyData.eqv]
  exact cas_eqv xs ys
def srtC (cs : List Ca) : List Ca := (srtTS (cs.map caT)).map fun t => ⟨codeS (t.getD 0 (sg 0)), codeS (t.getD 1 (sg 0)), codeS (t.getD 2 (sg 0))⟩
theorem srtC_eq (cs : List Ca) : (srtC cs).Perm cs ∧ srtTS (cs.map caT) = (srtC cs).map caT := by
  obtain ⟨ss, p, e⟩ := srt_ca cs
  have : srtC cs = ss := by
    unfold srtC
    rw [e, List.map_map]
    conv => rhs; rw [← List.map_id ss]
    exact List.map_congr_left fun c _ => rfl
  rw [this]
  exact ⟨p, e⟩
theorem srt_tb (tb : Tb) : sortedDTSD [tbD tb] = some (.list ((srtC (tb.map (·.1))).map caD)) := by
  show (srowsOf ((tb.map fun q => (caD q.1, PyData.int q.2)).map (·.1))).map (fun rs => PyData.list ((srtTS rs).map tupS)) = _
  rw [List.map_map]
  have := rows_ca (tb.map (·.1))
  rw [List.map_map] at this
  rw [show ((fun p : D × D => p.1) ∘ fun q : Ca × Int => (caD q.1, PyData.int q.2)) = caD ∘ fun q => q.1 from rfl, this, Option.map_some, (srtC_eq _).2, List.map_map]
  rfl
theorem srtC_same {xs ys : List Ca} : srtC xs = srtC ys ↔ xs.Perm ys := by
  constructor
  · intro e
    have := (srtC_eq xs).1.symm
    rw [e] at this
    exact this.trans (srtC_eq ys).1
  · intro p
    have e := srtTS_same (p.map caT)
    unfold srtC
    rw [e]
def alk (a b : List Ru) : Bool := decide (srtC (keysOf a) = srtC (keysOf b))
theorem alike_at {a b : List Ru} (ha : okBo a) (hb : okBo b) : falike [.im (boD a), .im (boD b)] = .ok (.im (.bool (alk a b))) [.im (boD a), .im (boD b)] := by
  have t1 := two_tables_at ha hb
  have s1 := srt_tb (table a)
  have s2 := srt_tb (table b)
  have k1 : ∀ c ∈ srtC (keysOf a), okC c = true := fun c hc => keys_ok ha.1 ((srtC_eq _).1.subset hc)
  have k2 : ∀ c ∈ srtC (keysOf b), okC c = true := fun c hc => keys_ok hb.1 ((srtC_eq _).1.subset hc)
  have e1 := eqA_cas k1 k2
  have hk : alk a b = decide (srtC (keysOf a) = srtC (keysOf b)) := rfl
  obtain ⟨B, hB⟩ : ∃ B, B = alk a b := ⟨_, rfl⟩
  rw [← hk, ← hB] at e1
  rw [← hB]
  change sortedDTSD [tbD (table a)] = some (.list ((srtC (keysOf a)).map caD)) at s1
  change sortedDTSD [tbD (table b)] = some (.list ((srtC (keysOf b)).map caD)) at s2
  obtain ⟨L1, h1⟩ : ∃ L, L = PyData.list ((srtC (keysOf a)).map caD) := ⟨_, rfl⟩
  obtain ⟨L2, h2⟩ : ∃ L, L = PyData.list ((srtC (keysOf b)).map caD) := ⟨_, rfl⟩
  rw [← h1] at s1 e1
  rw [← h2] at s2 e1
  obtain ⟨T1, g1⟩ : ∃ T, T = tbD (table a) := ⟨_, rfl⟩
  obtain ⟨T2, g2⟩ : ∃ T, T = tbD (table b) := ⟨_, rfl⟩
  rw [← g1, ← g2] at t1
  rw [← g1] at s1
  rw [← g2] at s2
  apply wpR_eq
  unfold falike
  refine wpR_def rfl ?_
  simp -implicitDefEqProofs [galike, args0, t1, s1, s2, e1, backs_cons, isIm]
end FDL
namespace FDL
open PySem L2 FD
theorem get_without {α : Type} (rs : List α) (m j : Nat) (hm : m ≤ rs.length) : (without rs m)[j]? = rs[if j < m then j else j + 1]? := by
  unfold without
  by_cases h : j < m
  · rw [if_pos h, List.getElem?_append_left (by rw [List.length_take]; omega), List.getElem?_take_of_lt h]
  · rw [if_neg h, List.getElem?_append_right (by rw [List.length_take]; omega), List.getElem?_drop, List.length_take]
    congr 1
    omega
theorem mem_without {α : Type} {rs : List α} {m : Nat} {x : α} (hm : m ≤ rs.length) : x ∈ without rs m ↔ ∃ j, j ≠ m ∧ rs[j]? = some x := by
  constructor
  · intro h
    obtain ⟨j, hj⟩ := List.mem_iff_getElem?.mp h
    rw [get_without rs m j hm] at hj
    exact ⟨_, by split <;> omega, hj⟩
  · rintro ⟨j, hj, hx⟩
    refine List.mem_iff_getElem?.mpr ⟨if j < m then j else j - 1, ?_⟩
    rw [get_without rs m _ hm]
    by_cases h : j < m
    · simp only [if_pos h]
      exact hx
    · simp only [if_neg h]
      rw [if_neg (by omega), show j - 1 + 1 = j by omega]
      exact hx
theorem mem_or {α : Type} {rs : List α} {n : Nat} {r x : α} (hr : rs[n]? = some r) : x ∈ rs ↔ x ∈ without rs n ∨ x = r := by
  have hn : n < rs.length := (List.getElem?_eq_some_iff.mp hr).1
  rw [mem_without (by omega), List.mem_iff_getElem?]
  constructor
  · rintro ⟨j, hj⟩
    by_cases h : j = n
    · subst h
      rw [hr] at hj
      exact .inr (Option.some.inj hj).symm
    · exact .inl ⟨j, h, hj⟩
  · rintro (⟨j, _, hj⟩ | h)
    · exact ⟨j, hj⟩
    · exact ⟨n, by rw [h]; exact hr⟩
/-- the others cover it at no greater price -/
def Cov (os : List Ru) (r : Ru) : Prop := ∀ c ∈ casesOf r, ∃ o ∈ os, c ∈ casesOf o ∧ o.p ≤ r.p
theorem isN_iff {rs : List Ru} {n : Nat} {r : Ru} (hr : okR r = true) : isN rs n r = true ↔ Cov (without rs n) r := by
  unfold isN othersOf
  rw [Bool.or_eq_true, List.any_eq_true, List.all_eq_true]
  constructor
  · rintro (⟨o, ho, hc⟩ | h) c hcr
    · rw [List.mem_filter, Bool.and_eq_true, beq_iff_eq, decide_eq_true_eq] at ho
      refine ⟨o, ho.1, ?_, ho.2.2⟩
      obtain ⟨h1, h2, h3⟩ := mem_cases.mp hcr
      obtain ⟨s1, s2⟩ := ok_sides hr
      obtain ⟨a1, a2⟩ := side_own s1 (by decide) h1
      obtain ⟨b1, b2⟩ := side_own s2 (by decide) h3
      rw [side_iff a1 a2] at h1
      rw [side_iff b1 b2] at h3
      unfold coverS at hc
      rw [mem_cases, side_iff a1 a2, side_iff b1 b2]
      rw [Bool.or_eq_true, beq_iff_eq, beq_iff_eq] at h1 h3
      rw [Bool.and_eq_true, Bool.or_eq_true, Bool.or_eq_true, beq_iff_eq, beq_iff_eq, beq_iff_eq, beq_iff_eq] at hc
      rw [Bool.or_eq_true, Bool.or_eq_true, beq_iff_eq, beq_iff_eq, beq_iff_eq, beq_iff_eq]
      refine ⟨?_, h2.trans ho.2.1.symm, ?_⟩
      · rcases hc.1 with z | z
        · rcases h1 with q | q
          · exact .inl (q.trans z)
          · exact .inr (q.trans z)
        · exact .inr z
      · rcases hc.2 with z | z
        · rcases h3 with q | q
          · exact .inl (q.trans z)
          · exact .inr (q.trans z)
        · exact .inr z
    · have := h c hcr
      rw [List.any_eq_true] at this
      obtain ⟨o, ho, hf⟩ := this
      rw [List.mem_filter, Bool.and_eq_true, decide_eq_true_eq] at ho
      exact ⟨o, ho.1, (fits_iff hr hcr).mp hf, ho.2.2⟩
  · intro h
    refine .inr fun c hc => ?_
    obtain ⟨o, ho, h1, h2⟩ := h c hc
    rw [List.any_eq_true]
    refine ⟨o, List.mem_filter.mpr ⟨ho, ?_⟩, (fits_iff hr hc).mpr h1⟩
    rw [Bool.and_eq_true, beq_iff_eq, decide_eq_true_eq]
    exact ⟨(mem_cases.mp h1).2.1.symm.trans (mem_cases.mp hc).2.1, h2⟩
theorem cov_iff {rs : List Ru} {n : Nat} {r : Ru} (hr : rs[n]? = some r) : Cov (without rs n) r ↔ ∀ c, best rs c = best (without rs n) c := by
  constructor
  · intro h c
    cases q : best (without rs n) c with
    | none =>
      have hn := best_none q
      refine best_eq_none fun x hx hc => ?_
      rcases (mem_or hr).mp hx with z | z
      · exact hn x z hc
      · subst z
        obtain ⟨o, ho, h1, _⟩ := h c hc
        exact hn o ho h1
    | some v =>
      obtain ⟨⟨o, ho, hc, hp⟩, hm⟩ := best_some q
      refine best_eq_some ⟨o, (mem_or hr).mpr (.inl ho), hc, hp⟩ fun x hx hcx => ?_
      rcases (mem_or hr).mp hx with z | z
      · exact hm x z hcx
      · subst z
        obtain ⟨o', ho', h1, h2⟩ := h c hcx
        exact Int.le_trans (hm o' ho' h1) h2
  · intro h c hc
    have hrs : r ∈ rs := (mem_or hr).mpr (.inr rfl)
    cases q : best rs c with
    | none => exact absurd hc (best_none q r hrs)
    | some v =>
      have hv := (best_some q).2 r hrs hc
      rw [h c] at q
      obtain ⟨⟨o, ho, h1, h2⟩, _⟩ := best_some q
      exact ⟨o, ho, h1, by omega⟩
theorem nl_iff {rs : List Ru} {n : Nat} (h : okBo rs) (hn : n < rs.length) : nl rs n = true ↔ Cov (without rs n) rs[n] := by
  have hr : rs[n]? = some rs[n] := List.getElem?_eq_getElem hn
  unfold nl
  rw [hr]
  exact isN_iff (h.1 _ (List.getElem_mem hn))
/-! ### one rule left out -/
theorem best_ne {rs : List Ru} {n : Nat} {r : Ru} {c : Ca} (hr : rs[n]? = some r) (hc : c ∉ casesOf r) : best rs c = best (without rs n) c := by
  cases q : best (without rs n) c with
  | none =>
    have hn := best_none q
    refine best_eq_none fun x hx hx2 => ?_
    rcases (mem_or hr).mp hx with z | z
    · exact hn x z hx2
    · subst z; exact hc hx2
  | some v =>
    obtain ⟨⟨o, ho, h1, hp⟩, hm⟩ := best_some q
    refine best_eq_some ⟨o, (mem_or hr).mpr (.inl ho), h1, hp⟩ fun x hx hcx => ?_
    rcases (mem_or hr).mp hx with z | z
    · exact hm x z hcx
    · subst z; exact absurd hcx hc
def minO : Option Int → Int → Int
  | none, p => p
  | some v, p => if p < v then p else v
theorem best_one {rs : List Ru} {n : Nat} {r : Ru} {c : Ca} (hr : rs[n]? = some r) (hc : c ∈ casesOf r) : best rs c = some (minO (best (without rs n) c) r.p) := by
  have hrs : r ∈ rs := (mem_or hr).mpr (.inr rfl)
  cases q : best (without rs n) c with
  | none =>
    have hn := best_none q
    refine best_eq_some ⟨r, hrs, hc, rfl⟩ fun x hx hx2 => ?_
    rcases (mem_or hr).mp hx with z | z
    · exact absurd hx2 (hn x z)
    · subst z; exact Int.le_refl _
  | some v =>
    obtain ⟨⟨o, ho, h1, hp⟩, hm⟩ := best_some q
    show best rs c = some (if r.p < v then r.p else v)
    by_cases hlt : r.p < v
    · rw [if_pos hlt]
      refine best_eq_some ⟨r, hrs, hc, rfl⟩ fun x hx hcx => ?_
      rcases (mem_or hr).mp hx with z | z
      · have := hm x z hcx; omega
      · subst z; exact Int.le_refl _
    · rw [if_neg hlt]
      refine best_eq_some ⟨o, (mem_or hr).mpr (.inl ho), h1, hp⟩ fun x hx hcx => ?_
      rcases (mem_or hr).mp hx with z | z
      · exact hm x z hcx
      · subst z; omega
theorem filt_one {α : Type} {P : α → Bool} {q : α} : ∀ {l : List α}, l.Nodup → q ∈ l → (∀ x ∈ l, P x = true ↔ x = q) → l.filter P = [q]
  | [], _, h, _ => by cases h
  | y :: l, nd, hq, h => by
    obtain ⟨n1, n2⟩ := List.nodup_cons.mp nd
    by_cases e : y = q
    · subst e
      rw [List.filter_cons_of_pos ((h y (List.mem_cons_self ..)).mpr rfl)]
      rw [List.filter_eq_nil_iff.mpr fun x hx hp => n1 (((h x (List.mem_cons_of_mem _ hx)).mp hp) ▸ hx)]
    · rw [List.filter_cons_of_neg (fun hp => e ((h y (List.mem_cons_self ..)).mp hp))]
      exact filt_one n2 ((List.mem_cons.mp hq).resolve_left fun z => e z.symm) fun x hx => h x (List.mem_cons_of_mem _ hx)
/-- the cases of the one that the other has not -/
def lft (a b : List Ru) : List Ca := (keysOf a).filter fun c => (best b c).isNone
/-- the cases of both at unlike prices -/
def unl (a b : List Ru) : List Ca := (keysOf a).filter fun c => (best b c).isSome && (best a c != best b c)
theorem keys_best {rs : List Ru} {c : Ca} : c ∈ keysOf rs ↔ (best rs c).isSome = true := by
  rw [← look_table]
  exact look_some.symm
section
variable {rs : List Ru} {n : Nat} {r : Ru} {cp : Ca} (hr : rs[n]? = some r) (hc : casesOf r = [cp])
include hr hc
theorem one_ne {c : Ca} (h : c ≠ cp) : best rs c = best (without rs n) c := best_ne hr (by rw [hc]; simpa using h)
theorem one_at : best rs cp = some (minO (best (without rs n) cp) r.p) := best_one hr (by rw [hc]; simp)
theorem lft_none (h : best (without rs n) cp = none) : lft rs (without rs n) = [cp] := by
  refine filt_one (keys_nd rs) (keys_best.mpr (by rw [one_at hr hc]; rfl)) fun x hx => ?_
  constructor
  · intro hn
    by_cases e : x = cp
    · exact e
    · rw [← one_ne hr hc e] at hn
      have := keys_best.mp hx
      rw [Option.isNone_iff_eq_none] at hn
      rw [hn] at this
      cases this
  · rintro rfl
    rw [h]
    rfl
theorem lft_some {v : Int} (h : best (without rs n) cp = some v) : lft rs (without rs n) = [] := by
  refine List.filter_eq_nil_iff.mpr fun x hx hn => ?_
  rw [Option.isNone_iff_eq_none] at hn
  by_cases e : x = cp
  · rw [e, h] at hn; cases hn
  · rw [← one_ne hr hc e] at hn
    have := keys_best.mp hx
    rw [hn] at this
    cases this
theorem lft_back : lft (without rs n) rs = [] := by
  refine List.filter_eq_nil_iff.mpr fun x hx hn => ?_
  rw [Option.isNone_iff_eq_none] at hn
  have h1 := keys_best.mp hx
  by_cases e : x = cp
  · rw [e, one_at hr hc] at hn; cases hn
  · rw [← one_ne hr hc e, hn] at h1; cases h1
theorem unl_less {v : Int} (h : best (without rs n) cp = some v) (hv : r.p < v) : unl rs (without rs n) = [cp] := by
  have h1 := one_at hr hc
  rw [h] at h1
  change best rs cp = some (if r.p < v then r.p else v) at h1
  rw [if_pos hv] at h1
  refine filt_one (keys_nd rs) (keys_best.mpr (by rw [h1]; rfl)) fun x hx => ?_
  constructor
  · intro hn
    by_cases e : x = cp
    · exact e
    · rw [← one_ne hr hc e] at hn
      simp at hn
  · rintro rfl
    rw [h, h1]
    simp
    omega
theorem unl_none (h : best (without rs n) cp = none) : unl rs (without rs n) = [] := by
  refine List.filter_eq_nil_iff.mpr fun x hx hn => ?_
  by_cases e : x = cp
  · rw [e, h] at hn; simp at hn
  · rw [← one_ne hr hc e] at hn; simp at hn
theorem unl_like {v : Int} (h : best (without rs n) cp = some v) (hv : ¬ r.p < v) : unl rs (without rs n) = [] := by
  have h1 := one_at hr hc
  rw [h] at h1
  change best rs cp = some (if r.p < v then r.p else v) at h1
  rw [if_neg hv] at h1
  refine List.filter_eq_nil_iff.mpr fun x hx hn => ?_
  by_cases e : x = cp
  · rw [e, h, h1] at hn; simp at hn
  · rw [← one_ne hr hc e] at hn; simp at hn
theorem len_out : (table rs).length = (table (without rs n)).length + (if (best (without rs n) cp).isNone then 1 else 0) := by
  have hl : ∀ rs : List Ru, (table rs).length = (keysOf rs).length := fun rs => by unfold keysOf; rw [List.length_map]
  rw [hl, hl]
  cases h : best (without rs n) cp with
  | none =>
    have np : cp ∉ keysOf (without rs n) := fun z => by
      have := keys_best.mp z
      rw [h] at this
      cases this
    have p : (keysOf rs).Perm (cp :: keysOf (without rs n)) := by
      refine (List.perm_ext_iff_of_nodup (keys_nd rs) (List.nodup_cons.mpr ⟨np, keys_nd _⟩)).mpr fun c => ?_
      rw [List.mem_cons, keys_best, keys_best]
      by_cases e : c = cp
      · rw [e, one_at hr hc]; simp
      · rw [one_ne hr hc e]; simp [e]
    simpa using p.length_eq
  | some v =>
    have p : (keysOf rs).Perm (keysOf (without rs n)) := by
      refine (List.perm_ext_iff_of_nodup (keys_nd rs) (keys_nd _)).mpr fun c => ?_
      rw [keys_best, keys_best]
      by_cases e : c = cp
      · rw [e, one_at hr hc, h]; simp
      · rw [one_ne hr hc e]
    simpa using p.length_eq
theorem alk_out : alk rs (without rs n) = (best (without rs n) cp).isSome := by
  unfold alk
  rw [Bool.eq_iff_iff, decide_eq_true_eq, srtC_same, List.perm_ext_iff_of_nodup (keys_nd _) (keys_nd _)]
  constructor
  · intro h
    have := (h cp).mp (keys_best.mpr (by rw [one_at hr hc]; rfl))
    exact keys_best.mp this
  · intro h c
    rw [keys_best, keys_best]
    by_cases e : c = cp
    · rw [e, one_at hr hc, h]; simp
    · rw [one_ne hr hc e]
theorem within_out : within rs (without rs n) = (best (without rs n) cp).isSome := by
  rw [Bool.eq_iff_iff, within_iff]
  constructor
  · intro h
    exact h cp (by rw [one_at hr hc]; rfl)
  · intro h c hcs
    by_cases e : c = cp
    · rw [e]; exact h
    · rw [← one_ne hr hc e]; exact hcs
theorem within_back : within (without rs n) rs = true := by
  rw [within_iff]
  intro c h
  by_cases e : c = cp
  · rw [e, one_at hr hc]; rfl
  · rw [one_ne hr hc e]; exact h
theorem same_out : sameT (table rs) (table (without rs n)) = (match best (without rs n) cp with | none => false | some v => decide (v ≤ r.p)) := by
  rw [Bool.eq_iff_iff, same_iff]
  have h1 := one_at hr hc
  constructor
  · intro h
    have := h cp
    rw [h1] at this
    rw [← this]
    simp only [decide_eq_true_eq]
    cases q : best (without rs n) cp with
    | none => rw [q] at this; cases this
    | some v =>
      show (if r.p < v then r.p else v) ≤ r.p
      split <;> omega
  · intro h c
    by_cases e : c = cp
    · rw [e, h1]
      cases q : best (without rs n) cp with
      | none => rw [q] at h; cases h
      | some v =>
        rw [q] at h
        simp only [decide_eq_true_eq] at h
        show some (if r.p < v then r.p else v) = some v
        rw [if_neg (by omega)]
    · rw [one_ne hr hc e]
end
end FDL
namespace FDL
open PySem L2 FD
/-! ### what parts two books -/
@[simp] theorem nin_tb {c : Ca} {tb : Tb} : ninA (caD c) (tbD tb) = some (.bool (lookK tb c).isNone) := by
  show (getDD _ _).map _ = _
  rw [getDD_tb]
  cases lookK tb c <;> rfl
theorem ix_tb {c : Ca} {tb : Tb} {v : Int} (h : lookK tb c = some v) : ixA (tbD tb) (caD c) = some (.int v) := by
  show (getDD _ _).bind id = _
  rw [getDD_tb, h]
  rfl
def tagD (k : Int) (c : Ca) : D := .tuple [caD c, .int k]
def apart (a b : List Ru) : List D := (lft a b).map (tagD 0) ++ (lft b a).map (tagD 1)
theorem lft_len (a b : List Ru) : (lft a b).length ≤ (table a).length := by
  unfold lft keysOf
  refine Nat.le_trans (List.length_filter_le _ _) ?_
  rw [List.length_map]
  exact Nat.le_refl _
theorem lft_eq (a b : List Ru) (f : Ca → D) : ((table a).filter fun q => (lookK (table b) q.1).isNone).map (fun q => f q.1) = (lft a b).map f := by
  unfold lft keysOf
  rw [List.filter_map, List.map_map]
  have : ((table a).filter fun q => (lookK (table b) q.1).isNone) = (table a).filter ((fun c => (best b c).isNone) ∘ fun x => x.1) := by
    congr 1
    funext q
    show _ = (best b q.1).isNone
    rw [look_table]
  rw [this]
  rfl
theorem unl_eq (a b : List Ru) (f : Ca → D) : ((table a).filter fun q => (best b q.1).isSome && (best a q.1 != best b q.1)).map (fun q => f q.1) = (unl a b).map f := by
  unfold unl keysOf
  rw [List.filter_map, List.map_map]
  rfl
theorem ne_gd {k W : Nat} {ds : List D} (h : ∀ d ∈ ds, Gd k W d) (hk : k < 60) : neD (.list ds) (.list []) = some (.bool (!ds.isEmpty)) := by
  have s1 := (gd_list (ds := ds) h).shp (by omega)
  have : eqOk (.list ds) (.list []) = true := by
    unfold eqOk
    rw [s1]
    simp
    exact .inr rfl
  unfold neD
  rw [if_pos this]
  cases ds <;> rfl
theorem gd_tag {k : Int} {c : Ca} (h : okC c = true) (h0 : 0 ≤ k) (h1 : k < 1000) : Gd 2 70 (tagD k c) := by
  refine gd_tup (k := 1) (W := 34) (ds := [caD c, .int k]) fun d hd => ?_
  simp only [List.mem_cons, List.not_mem_nil, or_false] at hd
  rcases hd with z | z
  · rw [z]; exact (gd_ca h).mono (by decide) (by decide)
  · rw [z]; exact (gd_int h0 h1).mono (by decide) (by decide)
theorem gd_apart {a b : List Ru} (ha : okBo a) (hb : okBo b) : ∀ d ∈ apart a b, Gd 2 70 d := by
  intro d hd
  unfold apart at hd
  rcases List.mem_append.mp hd with z | z
  · obtain ⟨c, hc, rfl⟩ := List.mem_map.mp z
    exact gd_tag (keys_ok ha.1 (List.mem_filter.mp hc).1) (by decide) (by decide)
  · obtain ⟨c, hc, rfl⟩ := List.mem_map.mp z
    exact gd_tag (keys_ok hb.1 (List.mem_filter.mp hc).1) (by decide) (by decide)
theorem min_tag (k : Int) (c : Ca) : minW [.list [tagD k c]] = some (tagD k c) := by
  simp [minW, mnOk, tupDs, tupD, tagD, caD, PySem.W.alike, PySem.W.alikeAll, nnD, PyData.depthAll, PyData.depth, PySem.W.minD]
theorem min_ca (c : Ca) : minW [.list [caD c]] = some (caD c) := by
  simp [minW, mnOk, tupDs, tupD, caD, PySem.W.alike, PySem.W.alikeAll, nnD, PyData.depthAll, PyData.depth, PySem.W.minD]
theorem parting_at {a b : List Ru} {R : D} (ha : okBo a) (hb : okBo b) (h : apart a b = [] ∧ R = .none ∨ ∃ c k, apart a b = [tagD k c] ∧ R = tagD k c) : fparting [.im (boD a), .im (boD b)] = .ok (.im R) [.im (boD a), .im (boD b)] := by
  have t1 := two_tables_at ha hb
  have hl := table_len a
  have hl2 := table_len b
  have := ha.2
  have := hb.2
  have n1 := ne_gd (gd_apart ha hb) (by decide)
  have ad : addD (.list ((lft a b).map (tagD 0))) (.list ((lft b a).map (tagD 1))) = some (.list (apart a b)) := by
    have f1 := lft_len a b
    have f2 := lft_len b a
    have fw : few (((lft a b).map (tagD 0)).length + ((lft b a).map (tagD 1)).length) = true := by rw [List.length_map, List.length_map]; exact decide_eq_true (by omega)
    unfold apart addD
    simp only [fw, if_true]
  have hx1 : itX (tbD (table a)) = some ((table a).map fun q => caD q.1) := itX_tb
  have hx2 : itX (tbD (table b)) = some ((table b).map fun q => caD q.1) := itX_tb
  obtain ⟨W, hW⟩ : ∃ W, W = apart a b := ⟨_, rfl⟩
  rw [← hW] at h n1 ad
  have hend : ∀ e : FD.Env, var 2 e = .ok (.list W) e → ifE (tst (FD.bin neD (var 2) (lstE nilA))) (cbE minW (consA (var 2) nilA)) (FD.ret .none) e = .ok R e := by
    intro e hv
    have l0 : lstE nilA e = .ok (.list []) e := rfl
    have e1 : tst (FD.bin neD (var 2) (lstE nilA)) e = .ok (!W.isEmpty) e := tst_eq (bin_eq hv l0 n1)
    unfold ifE
    rw [bnd_eq e1]
    rcases h with ⟨rfl, rfl⟩ | ⟨c, k, rfl, rfl⟩
    · rfl
    · exact cbE_eq (consA_eq hv rfl) (min_tag k c)
  apply wpR_eq
  unfold fparting
  refine wpR_def rfl ?_
  simp -implicitDefEqProofs [gparting, args0, t1, hx1]
  refine comp_all (em := fun q : Ca × Int => caD q.1) (as := table a) (fun q => (lookK (table b) q.1).isNone) (fun q => tagD 0 q.1) rfl rfl rfl (by omega) (fun q hq => ?_) ?_
  · cases hz : lookK (table b) q.1 <;> simp -implicitDefEqProofs [wipeE, imAt, hz] <;> rfl
  · rw [lft_eq]
    simp -implicitDefEqProofs [hx2]
    refine comp_all (em := fun q : Ca × Int => caD q.1) (as := table b) (fun q => (lookK (table a) q.1).isNone) (fun q => tagD 1 q.1) rfl rfl rfl (by omega) (fun q hq => ?_) ?_
    · cases hz : lookK (table a) q.1 <;> simp -implicitDefEqProofs [wipeE, imAt, hz] <;> rfl
    · rw [lft_eq]
      rw [kBin2_at, ad]
      refine ⟨by simp, ?_⟩
      show wp (retS _) _ _ _
      rw [wp_retS]
      exact wp_of_eq (hend _ rfl) ⟨rfl, rfl⟩
theorem unlike_at {a b : List Ru} {R : D} (ha : okBo a) (hb : okBo b) (h : unl a b = [] ∧ R = .none ∨ ∃ c, unl a b = [c] ∧ R = caD c) : funlike_price [.im (boD a), .im (boD b)] = .ok (.im R) [.im (boD a), .im (boD b)] := by
  have t1 := two_tables_at ha hb
  have hl := table_len a
  have := ha.2
  have n1 := ne_gd (k := 1) (W := 33) (ds := (unl a b).map caD) (fun d hd => by
    obtain ⟨c, hc, rfl⟩ := List.mem_map.mp hd
    exact gd_ca (keys_ok ha.1 (List.mem_filter.mp hc).1)) (by decide)
  have hx1 : itX (tbD (table a)) = some ((table a).map fun q => caD q.1) := itX_tb
  have hend : ∀ e : FD.Env, var 2 e = .ok (.list ((unl a b).map caD)) e → ifE (tst (FD.bin neD (var 2) (lstE nilA))) (cbE minW (consA (var 2) nilA)) (FD.ret .none) e = .ok R e := by
    intro e hv
    have l0 : lstE nilA e = .ok (.list []) e := rfl
    have e1 := tst_eq (bin_eq hv l0 n1)
    unfold ifE
    rw [bnd_eq e1]
    rcases h with ⟨h1, rfl⟩ | ⟨c, h1, rfl⟩
    · rw [h1]; rfl
    · rw [h1] at hv ⊢
      exact cbE_eq (consA_eq hv rfl) (min_ca c)
  apply wpR_eq
  unfold funlike_price
  refine wpR_def rfl ?_
  simp -implicitDefEqProofs [gunlike_price, args0, t1, hx1]
  refine comp_all (em := fun q : Ca × Int => caD q.1) (as := table a) (fun q => (best b q.1).isSome && (best a q.1 != best b q.1)) (fun q => caD q.1) rfl rfl rfl (by omega) (fun q hq => ?_) ?_
  · have m1 : lookK (table a) q.1 = some q.2 := look_mem (table_nodup a [] (by simp)) (show (q.1, q.2) ∈ table a from hq)
    have i1 := ix_tb m1
    rw [← look_table, ← look_table, m1]
    cases hz : lookK (table b) q.1 with
    | none => simp -implicitDefEqProofs [wipeE, imAt, hz]
    | some v =>
      have i2 := ix_tb hz
      by_cases e : q.2 = v
      · simp -implicitDefEqProofs [wipeE, imAt, hz, i1, i2, e]
      · have e' : (q.2 == v) = false := by simpa using e
        simp -implicitDefEqProofs [wipeE, imAt, hz, i1, i2, e, e']
  · rw [unl_eq]
    refine ⟨by simp, ?_⟩
    show wp (retS _) _ _ _
    rw [wp_retS]
    exact wp_of_eq (hend _ rfl) ⟨rfl, rfl⟩
end FDL
namespace FDL
open PySem L2 FD
/-! ### what is told when one is left out -/
theorem gd_none : Gd 0 10 .none := ⟨by decide, by decide, by decide, by decide, by decide⟩
theorem gd_bool (b : Bool) : Gd 0 10 (.bool b) := by cases b <;> exact ⟨by decide, by decide, by decide, by decide, by decide⟩
theorem min2 {v p : Int} : minD [.int v, .int p] = some (.int (if p < v then p else v)) := by
  simp [minD]
def Told (co : Option Int) (p : Int) (Tr R1 R2 R3 : D) (b1 b2 b3 b4 : Bool) : Prop := match co with
  | none => R1 = .tuple [Tr, .int 0] ∧ R2 = .tuple [Tr, .int 1] ∧ R3 = .none ∧ b1 = false ∧ b2 = false ∧ b3 = false ∧ b4 = true
  | some v => if p < v then R1 = .none ∧ R2 = .none ∧ R3 = Tr ∧ b1 = true ∧ b2 = false ∧ b3 = true ∧ b4 = true else R1 = .none ∧ R2 = .none ∧ R3 = .none ∧ b1 = true ∧ b2 = true ∧ b3 = true ∧ b4 = true
theorem lor_core {Wd Rs Pt Tr R1 R2 R3 : D} {p : Int} {co : Option Int} {b1 b2 b3 b4 : Bool} {S : Str} (sl : slD Pt none (some 3) = some Tr) (ix : ixA Pt (.int 3) = some (.int p))
    (p1 : fprice [.im Rs, .im Tr] = .ok (.im (optD co)) [.im Rs, .im Tr]) (p2 : fprice [.im Wd, .im Tr] = .ok (.im (.int (minO co p))) [.im Wd, .im Tr])
    (q1 : fparting [.im Wd, .im Rs] = .ok (.im R1) [.im Wd, .im Rs]) (q2 : fparting [.im Rs, .im Wd] = .ok (.im R2) [.im Rs, .im Wd]) (q3 : funlike_price [.im Wd, .im Rs] = .ok (.im R3) [.im Wd, .im Rs])
    (q4 : falike [.im Wd, .im Rs] = .ok (.im (.bool b1)) [.im Wd, .im Rs]) (q5 : fsame [.im Wd, .im Rs] = .ok (.im (.bool b2)) [.im Wd, .im Rs])
    (q6 : fis_within [.im Wd, .im Rs] = .ok (.im (.bool b3)) [.im Wd, .im Rs]) (q7 : fis_within [.im Rs, .im Wd] = .ok (.im (.bool b4)) [.im Rs, .im Wd])
    (hr : reprD [.list [R1, R2, R3, .bool b1, .bool b2, .bool b3, .bool b4]] = some (.str S))
    (hc : Told co p Tr R1 R2 R3 b1 b2 b3 b4) :
    f_law_left_out_right [.im Wd, .im Rs, .im Pt] = .ok (.im (.bool true)) [.im Wd, .im Rs, .im Pt] := by
  have es : eqA (.str S) (.str S) = some (.bool true) := by simp
  have nn : neD (.int p) (.int p) = some (.bool false) := by simp
  have i0 : isD .none .none = some (.bool true) := rfl
  apply wpR_eq
  unfold f_law_left_out_right
  refine wpR_def rfl ?_
  cases co with
  | none =>
    obtain ⟨rfl, rfl, rfl, rfl, rfl, rfl, rfl⟩ := hc
    have o1 : optD none = .none := rfl
    have o2 : minO none p = p := rfl
    rw [o1] at p1
    rw [o2] at p2
    simp -implicitDefEqProofs [g_law_left_out_right, args0, sl, ix, p1, p2, q1, q2, q3, q4, q5, q6, q7, hr, addD, i0, nn, es]
  | some v =>
    have o1 : optD (some v) = .int v := rfl
    have o2 : minO (some v) p = if p < v then p else v := rfl
    rw [o1] at p1
    rw [o2] at p2
    by_cases h : p < v
    · simp only [Told, h, if_true] at hc p2
      have i1 : isD (.int v) .none = some (.bool false) := rfl
      have g1 : gtI (.int v) (.int p) = some (.bool true) := by simp [h]
      obtain ⟨rfl, rfl, rfl, rfl, rfl, rfl, rfl⟩ := hc
      simp -implicitDefEqProofs [g_law_left_out_right, args0, sl, ix, p1, p2, q1, q2, q3, q4, q5, q6, q7, hr, h, min2, addD, i1, g1, nn, es]
    · simp only [Told, h, if_false] at hc p2
      have i1 : isD (.int v) .none = some (.bool false) := rfl
      have nv : neD (.int v) (.int v) = some (.bool false) := by simp
      have g1 : gtI (.int v) (.int p) = some (.bool false) := by simp [h]
      obtain ⟨rfl, rfl, rfl, rfl, rfl, rfl, rfl⟩ := hc
      simp -implicitDefEqProofs [g_law_left_out_right, args0, sl, ix, p1, p2, q1, q2, q3, q4, q5, q6, q7, hr, h, min2, addD, i1, g1, nn, es]
end FDL
namespace FDL
open PySem L2 FD
/-! ### the draw of a star -/
def sgL (L : List Nat) : List D := L.map fun c => .str (sg c)
def lsS (L : List Nat) : M := .ls ((sgL L).map .im)
def mkS (w : Int) (l F : Nat) (p : Int) (y : Nat) : Ru := if w = 0 then ⟨y, l, F, p⟩ else ⟨F, l, y, p⟩
def own (w : Int) : Nat := if w = 0 then 60 else 62
def oth (w : Int) : Nat := if w = 0 then 62 else 60
def envS (a b c : Int) (cs : List Nat) (E F l : Nat) (p w : Int) (L : List Nat) (rs : List Ru) (x9 : Option M) : FD.Env :=
  [some (stM a b c), some (.im (sgsD cs)), some (.im (.str (sg E))), some (.im (.str (sg F))), some (.im (.str (sg l))), some (.im (.int p)), some (.im (.int w)), some (lsS L), some (lsM rs), x9]
section
variable {a b c : Int} {cs : List Nat} {E F l : Nat} {p w : Int} {L : List Nat} {rs : List Ru} {x9 : Option M}
theorem len_envS (hl : L.length ≤ 1000) : pkLen 7 (envS a b c cs E F l p w L rs x9) = .ok (.int (L.length : Int)) (envS a b c cs E F l p w L rs x9) := by
  have p1 : peekD 7 (envS a b c cs E F l p w L rs x9) = some (.list (sgL L)) := toD_ims
  have l1 : lenD [.list (sgL L)] = some (.int (L.length : Int)) := by
    show some (PyData.int ((sgL L).length : Nat)) = _
    unfold sgL
    rw [List.length_map]
  unfold pkLen chk
  rw [if_pos (by rfl)]
  unfold FD.pk
  rw [p1]
  simp only [l1]
  first | rfl | (simp [FD.lif]; done)
theorem ne_envS (hL : ∀ x ∈ L, x < 128) : tst (pkL 7 neD (lstE nilA)) (envS a b c cs E F l p w L rs x9) = .ok (!L.isEmpty) (envS a b c cs E F l p w L rs x9) := by
  have p1 : peekD 7 (envS a b c cs E F l p w L rs x9) = some (.list (sgL L)) := toD_ims
  have n1 := ne_gd (k := 0) (W := 10) (ds := sgL L) (fun d hd => by
    obtain ⟨x, hx, rfl⟩ := List.mem_map.mp hd
    exact gd_sg (hL x hx)) (by decide)
  refine tst_eq ?_
  unfold pkL chk
  rw [if_pos (by rfl), bnd_eq (a := .list []) (e1 := envS a b c cs E F l p w L rs x9) (by rfl)]
  unfold FD.pk
  rw [p1]
  show lif (neD (.list (sgL L)) (.list [])) _ = _
  rw [n1]
  cases L <;> rfl
theorem get_lsS {L : List Nat} {j : Nat} {y : Nat} (h : L[j]? = some y) : ((sgL L).map M.im)[j]? = some (.im (.str (sg y))) := by
  unfold sgL
  rw [List.map_map, List.getElem?_map, h]
  rfl
theorem seqIdx {i : Int} {n : Nat} (h0 : 0 ≤ i) (h : i < n) : seqIndex? i n = some i.toNat := by
  unfold seqIndex?
  rw [if_neg (by omega : ¬ i < 0)]
  simp [h0, h]
theorem erase_map {α β : Type} (f : α → β) : ∀ (L : List α) (j : Nat), (L.map f).eraseIdx j = (L.eraseIdx j).map f
  | [], _ => rfl
  | _ :: _, 0 => rfl
  | x :: L, j + 1 => congrArg (f x :: ·) (erase_map f L j)
theorem erase_perm : ∀ {L : List Nat} {j : Nat} (h : j < L.length), L.Perm (L[j] :: L.eraseIdx j)
  | x :: L, 0, _ => .refl _
  | x :: L, j + 1, h => by
    have h' : j < L.length := by simpa using h
    exact ((erase_perm h').cons x).trans (List.Perm.swap ..)
theorem star_pop (hL : L ≠ []) (hl : L.length ≤ 27) (hb : 0 ≤ b) (hb2 : b < 800000) :
    ∃ (a' : Int) (y : Nat) (L' : List Nat), L.Perm (y :: L') ∧ setS 9 (popA 7 (callD f_law_take (arB 0 (arD (pkLen 7) arN)))) (envS a b c cs E F l p w L rs x9) = .ok .nxt (envS a' (b + 1) c cs E F l p w L' rs (some (.im (.str (sg y))))) := by
  have hp : 0 < L.length := List.length_pos_iff.mpr hL
  obtain ⟨r, a', r0, r1, t⟩ := take_at (a := a) (b := b) (c := c) (m := (L.length : Int)) (by omega) (by omega) hb (by omega)
  have hj : r.toNat < L.length := by omega
  refine ⟨a', L[r.toNat], L.eraseIdx r.toNat, erase_perm hj, ?_⟩
  have e1 : callD f_law_take (arB 0 (arD (pkLen 7) arN)) (envS a b c cs E F l p w L rs x9) = .ok (.int r) (envS a' (b + 1) c cs E F l p w L rs x9) :=
    callB1 (by rfl) (len_envS (by omega)) (by rfl) t
  have e2 : popA 7 (callD f_law_take (arB 0 (arD (pkLen 7) arN))) (envS a b c cs E F l p w L rs x9) = .ok (.str (sg L[r.toNat])) (envS a' (b + 1) c cs E F l p w (L.eraseIdx r.toNat) rs x9) := by
    unfold popA
    rw [if_pos (by rfl), bnd_eq e1]
    have g1 : (envS a' (b + 1) c cs E F l p w L rs x9)[7]? = some (some (.ls ((sgL L).map M.im))) := rfl
    unfold popK
    simp only [g1]
    have sl : ((sgL L).map M.im).length = L.length := by unfold sgL; rw [List.length_map, List.length_map]
    rw [sl, seqIdx r0 r1, decide_eq_true (by omega), decide_eq_true (by omega)]
    simp only [Bool.and_self, if_true, get_lsS (List.getElem?_eq_getElem hj)]
    have er : ((sgL L).map M.im).eraseIdx r.toNat = (sgL (L.eraseIdx r.toNat)).map M.im := by
      unfold sgL
      rw [erase_map, erase_map]
    rw [er]
    rfl
  exact setS_eq e2 (by simp [envS])
theorem mk_at {y : Nat} (hw : w = 0 ∨ w = 2) : ifE (tst (FD.bin eqA (var 6) (FD.ret (.int 0)))) (tupE (consA (var 9) (consA (var 4) (consA (var 3) (consA (var 5) nilA))))) (tupE (consA (var 3) (consA (var 4) (consA (var 9) (consA (var 5) nilA))))) (envS a b c cs E F l p w L rs (some (.im (.str (sg y))))) =
    .ok (ruD (mkS w l F p y)) (envS a b c cs E F l p w L rs (some (.im (.str (sg y))))) := by
  have t : tst (FD.bin eqA (var 6) (FD.ret (.int 0))) (envS a b c cs E F l p w L rs (some (.im (.str (sg y))))) = .ok (w == 0) (envS a b c cs E F l p w L rs (some (.im (.str (sg y))))) := tst_eq (bin_eq (by rfl) ret_at eqA_int)
  unfold ifE
  rw [bnd_eq t]
  rcases hw with rfl | rfl <;> rfl
theorem app_S {y : Nat} (hw : w = 0 ∨ w = 2) (hl : rs.length ≤ 1000) : appS 8 (ifE (tst (FD.bin eqA (var 6) (FD.ret (.int 0)))) (tupE (consA (var 9) (consA (var 4) (consA (var 3) (consA (var 5) nilA))))) (tupE (consA (var 3) (consA (var 4) (consA (var 9) (consA (var 5) nilA)))))) (envS a b c cs E F l p w L rs (some (.im (.str (sg y))))) =
    .ok .nxt (envS a b c cs E F l p w L (rs ++ [mkS w l F p y]) (some (.im (.str (sg y))))) := by
  unfold appS
  rw [if_pos (by rfl), bnd_eq (mk_at hw)]
  show (if few ((rs.map fun r => M.im (ruD r)).length + 1) then _ else _) = _
  rw [if_pos (few_le' (by rw [List.length_map]; omega))]
  unfold envS lsM
  rw [List.map_append]
  rfl
end
theorem star_loop {c : Int} {cs : List Nat} {E F l : Nat} {p w : Int} (hw : w = 0 ∨ w = 2) : ∀ (k : Nat) (L : List Nat) (rs : List Ru) (a b : Int) (x9 : Option M), L.length < k → L.length + rs.length ≤ 27 → (∀ x ∈ L, x < 128) → 0 ≤ b → b + (L.length : Int) < 800000 →
    ∃ (a' b' : Int) (S : List Nat) (y9 : Option M), S.Perm L ∧ b ≤ b' ∧ b' ≤ b + (L.length : Int) ∧ whileS k (tst (pkL 7 neD (lstE nilA))) (seqS (setS 9 (popA 7 (callD f_law_take (arB 0 (arD (pkLen 7) arN))))) (appS 8 (ifE (tst (FD.bin eqA (var 6) (FD.ret (.int 0)))) (tupE (consA (var 9) (consA (var 4) (consA (var 3) (consA (var 5) nilA))))) (tupE (consA (var 3) (consA (var 4) (consA (var 9) (consA (var 5) nilA)))))))) (envS a b c cs E F l p w L rs x9) =
      .ok .nxt (envS a' b' c cs E F l p w [] (rs ++ S.map (mkS w l F p)) y9)
  | 0, _, _, _, _, _, h, _, _, _, _ => absurd h (Nat.not_lt_zero _)
  | k + 1, L, rs, a, b, x9, hk, hn, h128, hb, hb2 => by
    have t := ne_envS (a := a) (b := b) (c := c) (cs := cs) (E := E) (F := F) (l := l) (p := p) (w := w) (rs := rs) (x9 := x9) h128
    by_cases hL : L = []
    · subst hL
      refine ⟨a, b, [], x9, .refl _, by omega, by simp, ?_⟩
      rw [whileS_end t]
      simp
    · have te : (!L.isEmpty) = true := by simpa using hL
      rw [te] at t
      obtain ⟨a1, y, L', pm, eq⟩ := star_pop (a := a) (b := b) (c := c) (cs := cs) (E := E) (F := F) (l := l) (p := p) (w := w) (rs := rs) (x9 := x9) hL (by omega) hb (by omega)
      have ln := pm.length_eq
      rw [List.length_cons] at ln
      obtain ⟨a', b', S, y9, p1, p2, p3, e⟩ := star_loop hw k L' (rs ++ [mkS w l F p y]) a1 (b + 1) (some (.im (.str (sg y)))) (by omega) (by rw [List.length_append, List.length_singleton]; omega) (fun x hx => h128 x (pm.symm.subset (List.mem_cons_of_mem _ hx))) (by omega) (by omega)
      refine ⟨a', b', y :: S, y9, (p1.cons y).trans pm.symm, by omega, by omega, ?_⟩
      rw [whileS_step t (by rw [seqS_nxt eq]; exact app_S hw (by omega))]
      rw [e, List.append_assoc]
      rfl
theorem sgs_ix {cs : List Nat} {j : Int} (h0 : 0 ≤ j) (h : j < (cs.length : Int)) : ∃ x ∈ cs, ixA (sgsD cs) (.int j) = some (.str (sg x)) := by
  obtain ⟨d, hd, hix⟩ := ix_list (cs := cs.map fun c => PyData.str (sg c)) (j := j) h0 (by rw [List.length_map]; exact h)
  obtain ⟨x, hx, rfl⟩ := List.mem_map.mp hd
  exact ⟨x, hx, hix⟩
theorem star_at {a b c : Int} {cs : List Nat} (h1 : 1 ≤ cs.length) (hl : cs.length ≤ 100) (hb : 0 ≤ b) (hb2 : b < 700000) :
    ∃ (a' b' w : Int) (l F : Nat) (p : Int) (S : List Nat), (w = 0 ∨ w = 2) ∧ l ∈ cs ∧ (F ∈ cs ∨ F = oth w) ∧ 0 ≤ p ∧ p < 4 ∧ S.Perm (own w :: letters) ∧ b ≤ b' ∧ b' ≤ b + 40 ∧
      f_law_star [stM a b c, .im (sgsD cs)] = .ok (.im (.tuple [ruD (mkS w l F p 42), boD (S.map (mkS w l F p))])) [stM a' b' c, .im (sgsD cs)] := by
  obtain ⟨r0, a1, h00, h01, t0⟩ := take_at (a := a) (b := b) (c := c) (m := (cs.length : Int)) (by omega) (by omega) hb (by omega)
  obtain ⟨p, a2, hp0, hp1, t1⟩ := take_at (a := a1) (b := b + 1) (c := c) (m := 4) (by decide) (by decide) (by omega) (by omega)
  obtain ⟨r2, a3, h20, h21, t2⟩ := take_at (a := a2) (b := b + 1 + 1) (c := c) (m := 2) (by decide) (by decide) (by omega) (by omega)
  obtain ⟨r3, a4, h30, h31, t3⟩ := take_at (a := a3) (b := b + 1 + 1 + 1) (c := c) (m := (cs.length : Int) + 1) (by omega) (by omega) (by omega) (by omega)
  obtain ⟨l, hl1, i1⟩ := sgs_ix (cs := cs) h00 h01
  obtain ⟨w, hw⟩ : ∃ w, w = 2 * r2 := ⟨_, rfl⟩
  have hw2 : w = 0 ∨ w = 2 := by omega
  have m2 : mulD (.int 2) (.int r2) = some (.int w) := by rw [hw]; exact mulD_r (by omega) (by omega)
  obtain ⟨F, hF, i3⟩ := sgs_ix (cs := cs ++ [oth w]) h30 (by rw [List.length_append, List.length_singleton]; omega)
  have fd1 : fdvD (.int w) (.int 2) = some (.int (w / 2)) := fdvD_int (by decide) (by decide)
  have ix1 : ixA (.str "<>") (.int (w / 2)) = some (.str (sg (own w))) := by rcases hw2 with h | h <;> rw [h] <;> rfl
  have ix2 : ixA (.str "><") (.int (w / 2)) = some (.str (sg (oth w))) := by rcases hw2 with h | h <;> rw [h] <;> rfl
  have lenq : lenD [sgsD cs] = some (.int (cs.length : Int)) := by
    show some (PyData.int (((cs.map fun c => PyData.str (sg c)).length : Nat) : Int)) = _
    rw [List.length_map]
  have cat : addD (sgsD cs) (.list [.str (sg (oth w))]) = some (sgsD (cs ++ [oth w])) := by
    show addD (.list (cs.map fun c => PyData.str (sg c))) (.list [.str (sg (oth w))]) = _
    rw [addD_list, if_pos (few_le' (by simp; omega))]
    unfold sgsD
    rw [List.map_append]
    rfl
  have ad2 : addD (.str (sg (own w))) (.str "abcdefghijklmnopqrstuvwxyz") = some (.str (sg (own w) ++ "abcdefghijklmnopqrstuvwxyz")) := by rcases hw2 with h | h <;> rw [h] <;> rfl
  have ch : chars (sg (own w) ++ "abcdefghijklmnopqrstuvwxyz") = sgL (own w :: letters) := by rcases hw2 with h | h <;> rw [h] <;> rfl
  have fw : few (sg (own w) ++ "abcdefghijklmnopqrstuvwxyz" : Str).length = true := by rcases hw2 with h | h <;> rw [h] <;> rfl
  let S0 := sgsD cs
  let e0 : FD.Env := [some (stM a b c), some (.im S0), none, none, none, none, none, none, none, none]
  let e1 : FD.Env := [some (stM a1 (b + 1) c), some (.im S0), none, none, none, none, none, none, none, none]
  let e2 : FD.Env := [some (stM a2 (b + 1 + 1) c), some (.im S0), none, none, none, none, none, none, none, none]
  let e3 : FD.Env := [some (stM a3 (b + 1 + 1 + 1) c), some (.im S0), none, none, none, none, none, none, none, none]
  let e4 : FD.Env := [some (stM a3 (b + 1 + 1 + 1) c), some (.im S0), none, none, some (.im (.str (sg l))), some (.im (.int p)), some (.im (.int w)), none, none, none]
  let e5 : FD.Env := [some (stM a3 (b + 1 + 1 + 1) c), some (.im S0), some (.im (.str (sg (own w)))), none, some (.im (.str (sg l))), some (.im (.int p)), some (.im (.int w)), none, none, none]
  let e6 : FD.Env := [some (stM a4 (b + 1 + 1 + 1 + 1) c), some (.im S0), some (.im (.str (sg (own w)))), none, some (.im (.str (sg l))), some (.im (.int p)), some (.im (.int w)), none, none, none]
  let e7 : FD.Env := [some (stM a4 (b + 1 + 1 + 1 + 1) c), some (.im S0), some (.im (.str (sg (own w)))), some (.im (.str (sg F))), some (.im (.str (sg l))), some (.im (.int p)), some (.im (.int w)), none, none, none]
  have q1 : callD f_law_take (arB 0 (arD (cbE lenD (consA (var 1) nilA)) arN)) e0 = .ok (.int r0) e1 := callB1 (e1 := e0) (by rfl) (cbE_eq (consA_eq (by rfl) (by rfl)) lenq) (by rfl) t0
  have q2 : callD f_law_take (arB 0 (arD (FD.ret (.int 4)) arN)) e1 = .ok (.int p) e2 := callB1 (e1 := e1) (by rfl) ret_at (by rfl) t1
  have q3 : callD f_law_take (arB 0 (arD (FD.ret (.int 2)) arN)) e2 = .ok (.int r2) e3 := callB1 (e1 := e2) (by rfl) ret_at (by rfl) t2
  have q4 : callD f_law_take (arB 0 (arD (FD.bin addD (cbE lenD (consA (var 1) nilA)) (FD.ret (.int 1))) arN)) e5 = .ok (.int r3) e6 := callB1 (e1 := e5) (by rfl) (bin_eq (cbE_eq (consA_eq (by rfl) (by rfl)) lenq) ret_at (by rfl)) (by rfl) t3
  obtain ⟨a5, b5, S, y9, pm, hb3, hb4, s5⟩ := star_loop (c := c) (cs := cs) (E := own w) (F := F) (l := l) (p := p) hw2 1000 (own w :: letters) [] a4 (b + 1 + 1 + 1 + 1) none (by rw [List.length_cons]; decide) (by rw [List.length_cons]; decide) (fun x hx => by
    rcases List.mem_cons.mp hx with z | z
    · rw [z]; unfold own; split <;> decide
    · exact let_lt (codes_let (mem_letters.mp z))) (by omega) (by rw [List.length_cons, show letters.length = 26 from rfl]; omega)
  rw [List.length_cons, show letters.length = 26 from rfl] at hb4
  have s1 : parS (consA (FD.bin ixA (var 1) (callD f_law_take (arB 0 (arD (cbE lenD (consA (var 1) nilA)) arN)))) (consA (callD f_law_take (arB 0 (arD (FD.ret (.int 4)) arN))) (consA (FD.bin mulD (FD.ret (.int 2)) (callD f_law_take (arB 0 (arD (FD.ret (.int 2)) arN)))) nilA))) (gsCons (gN 4) (gsCons (gN 5) (gsCons (gN 6) gsNil))) e0 = .ok .nxt e4 := by
    unfold parS
    rw [bnd_eq (consA_eq (bin_eq (by rfl) q1 i1) (consA_eq q2 (consA_eq (bin_eq ret_at q3 m2) (by rfl))))]
    rfl
  have s2 : setS 2 (FD.bin ixA (FD.ret (.str "<>")) (FD.bin fdvD (var 6) (FD.ret (.int 2)))) e4 = .ok .nxt e5 := setS_eq (e1 := e4) (bin_eq ret_at (bin_eq (by rfl) ret_at fd1) ix1) (by simp [e4])
  have s3 : setS 3 (FD.bin ixA (FD.bin addD (var 1) (lstE (consA (FD.bin ixA (FD.ret (.str "><")) (FD.bin fdvD (var 6) (FD.ret (.int 2)))) nilA))) (callD f_law_take (arB 0 (arD (FD.bin addD (cbE lenD (consA (var 1) nilA)) (FD.ret (.int 1))) arN)))) e5 = .ok .nxt e7 :=
    setS_eq (e1 := e6) (bin_eq (bin_eq (by rfl) (lstE_eq (consA_eq (bin_eq ret_at (bin_eq (by rfl) ret_at fd1) ix2) (by rfl)) (by simp)) cat) q4 i3) (by simp [e6])
  have hls : lsX (FD.bin addD (var 2) (FD.ret (.str "abcdefghijklmnopqrstuvwxyz"))) e7 = .ok (lsS (own w :: letters)) e7 := by
    unfold lsX
    rw [bnd_eq (bin_eq (e1 := e7) (by rfl) ret_at ad2)]
    show (if few (sg (own w) ++ "abcdefghijklmnopqrstuvwxyz" : Str).length = true then FD.ret (M.ls ((chars (sg (own w) ++ "abcdefghijklmnopqrstuvwxyz")).map M.im)) else fun _ => .no) e7 = _
    rw [if_pos fw, ch]
    rfl
  have s4 : parMM 7 8 (lsX (FD.bin addD (var 2) (FD.ret (.str "abcdefghijklmnopqrstuvwxyz")))) (lstM nilA) e7 = .ok .nxt (envS a4 (b + 1 + 1 + 1 + 1) c cs (own w) F l p w (own w :: letters) [] none) := by
    unfold parMM
    rw [bnd_eq hls, bnd_eq (a := lsM []) (e1 := e7) (by rfl)]
    rfl
  rw [List.nil_append] at s5
  let eF : FD.Env := (envS a5 b5 c cs (own w) F l p w [] (S.map (mkS w l F p)) y9).set 8 (some (.im (.list ((S.map (mkS w l F p)).map ruD))))
  have hv : var 8 (envS a5 b5 c cs (own w) F l p w [] (S.map (mkS w l F p)) y9) = .ok (.list ((S.map (mkS w l F p)).map ruD)) eF := by
    have := toD_ls (S.map (mkS w l F p))
    show var 8 [_, _, _, _, _, _, _, _, some (lsM (S.map (mkS w l F p))), _] = _
    unfold lsM
    unfold lsM at this
    simp only [var, List.getElem?_cons_succ, List.getElem?_cons_zero, this]
    rfl
  have h42 : ifE (tst (FD.bin eqA (var 6) (FD.ret (.int 0)))) (tupE (consA (FD.ret (.str "*")) (consA (var 4) (consA (var 3) (consA (var 5) nilA))))) (tupE (consA (var 3) (consA (var 4) (consA (FD.ret (.str "*")) (consA (var 5) nilA))))) (envS a5 b5 c cs (own w) F l p w [] (S.map (mkS w l F p)) y9) = .ok (ruD (mkS w l F p 42)) (envS a5 b5 c cs (own w) F l p w [] (S.map (mkS w l F p)) y9) := by
    have t : tst (FD.bin eqA (var 6) (FD.ret (.int 0))) (envS a5 b5 c cs (own w) F l p w [] (S.map (mkS w l F p)) y9) = .ok (w == 0) (envS a5 b5 c cs (own w) F l p w [] (S.map (mkS w l F p)) y9) := tst_eq (bin_eq (by rfl) ret_at eqA_int)
    unfold ifE
    rw [bnd_eq t]
    clear_value e0 e1 e2 e3 e4 e5 e6 e7 eF
    clear s1 s2 s3 s4 s5 hls hv q1 q2 q3 q4 t
    rcases hw2 with h | h <;> (generalize own w = O; subst h; rfl)
  have s6 : retS (tupE (consA (ifE (tst (FD.bin eqA (var 6) (FD.ret (.int 0)))) (tupE (consA (FD.ret (.str "*")) (consA (var 4) (consA (var 3) (consA (var 5) nilA))))) (tupE (consA (var 3) (consA (var 4) (consA (FD.ret (.str "*")) (consA (var 5) nilA)))))) (consA (cbE tupleD (consA (var 8) nilA)) nilA))) (envS a5 b5 c cs (own w) F l p w [] (S.map (mkS w l F p)) y9) = .ok (.ret (.im (.tuple [ruD (mkS w l F p 42), boD (S.map (mkS w l F p))]))) eF :=
    ret_eq (tupE_eq (consA_eq h42 (consA_eq (cbE_eq (consA_eq hv (by rfl)) (by rfl)) (by rfl))) (by simp))
  refine ⟨a5, b5, w, l, F, p, S, hw2, hl1, ?_, hp0, hp1, pm, by omega, by omega, ?_⟩
  · rcases List.mem_append.mp hF with z | z
    · exact .inl z
    · exact .inr (by simpa using z)
  · have u : f_law_star [stM a b c, .im S0] = endF [0] [stM a b c, .im S0] (g_law_star e0) := rfl
    rw [show sgsD cs = S0 from rfl, u]
    unfold g_law_star
    rw [seqS_nxt s1, seqS_nxt s2, seqS_nxt s3, seqS_nxt s4, seqS_nxt s5, s6]
    rfl
end FDL
namespace FDL
open PySem L2 FD
/-! ### a star is all: the books -/
def offers (rs : List Ru) (c : Ca) (v : Int) : Prop := ∃ r ∈ rs, c ∈ casesOf r ∧ r.p = v
theorem best_off {A B : List Ru} {c : Ca} (h : ∀ v, offers A c v ↔ offers B c v) : best A c = best B c := by
  cases q : best A c with
  | none =>
    have hn := best_none q
    refine (best_eq_none fun x hx hc => ?_).symm
    obtain ⟨r, hr, h1, _⟩ := (h x.p).mpr ⟨x, hx, hc, rfl⟩
    exact hn r hr h1
  | some v =>
    obtain ⟨⟨o, ho, h1, hp⟩, hm⟩ := best_some q
    refine (best_eq_some ((h v).mp ⟨o, ho, h1, hp⟩) fun x hx hc => ?_).symm
    obtain ⟨r, hr, h2, h3⟩ := (h x.p).mpr ⟨x, hx, hc, rfl⟩
    have := hm r hr h2
    omega
theorem off_app {A B : List Ru} {c : Ca} {v : Int} : offers (A ++ B) c v ↔ offers A c v ∨ offers B c v := by
  unfold offers
  constructor
  · rintro ⟨r, hr, h⟩
    rcases List.mem_append.mp hr with z | z
    · exact .inl ⟨r, z, h⟩
    · exact .inr ⟨r, z, h⟩
  · rintro (⟨r, hr, h⟩ | ⟨r, hr, h⟩)
    · exact ⟨r, List.mem_append_left _ hr, h⟩
    · exact ⟨r, List.mem_append_right _ hr, h⟩
theorem len_same {A B : List Ru} (h : ∀ c, best A c = best B c) : (table A).length = (table B).length := by
  have hl : ∀ rs : List Ru, (table rs).length = (keysOf rs).length := fun rs => by unfold keysOf; rw [List.length_map]
  rw [hl, hl]
  refine List.Perm.length_eq ((List.perm_ext_iff_of_nodup (keys_nd _) (keys_nd _)).mpr fun c => ?_)
  rw [keys_best, keys_best, h]
structure Star (w : Int) (l F : Nat) (p : Int) (S : List Nat) : Prop where
  hw : w = 0 ∨ w = 2
  hl : isLet l = true
  hF : isLet F = true ∨ F = oth w
  p0 : 0 ≤ p
  p1 : p < 4
  pm : S.Perm (own w :: letters)
def caS (w : Int) (l F : Nat) (y : Nat) : Ca := if w = 0 then ⟨y, l, F⟩ else ⟨F, l, y⟩
theorem mkS_p (w : Int) (l F : Nat) (p : Int) (y : Nat) : (mkS w l F p y).p = p := by unfold mkS; split <;> rfl
section
variable {w : Int} {l F : Nat} {p : Int} {S : List Nat}
theorem Star.F42 (T : Star w l F p S) : F ≠ 42 := by
  rcases T.hF with z | z
  · exact (let_ne z).1
  · rw [z]; unfold oth; split <;> decide
theorem Star.mem (T : Star w l F p S) {y : Nat} : y ∈ S ↔ y = own w ∨ isLet y = true := by
  rw [T.pm.mem_iff, List.mem_cons, mem_letters]
theorem Star.y42 (T : Star w l F p S) {y : Nat} (h : y ∈ S) : y ≠ 42 := by
  rcases T.mem.mp h with z | z
  · rw [z]; unfold own; split <;> decide
  · exact (let_ne z).1
theorem Star.len (T : Star w l F p S) : S.length = 27 := by
  rw [T.pm.length_eq, List.length_cons, show letters.length = 26 from rfl]
theorem Star.ok (T : Star w l F p S) {y : Nat} (hy : (y = own w ∨ isLet y = true) ∨ y = 42) : okR (mkS w l F p y) = true := by
  have h0 := T.p0
  have h1 := T.p1
  have hl := T.hl
  have hF := T.hF
  rcases T.hw with h | h
  · subst h
    have e : mkS 0 l F p y = ⟨y, l, F, p⟩ := rfl
    have o1 : own 0 = 60 := rfl
    have o2 : oth 0 = 62 := rfl
    rw [e]
    rw [o1] at hy
    rw [o2] at hF
    simp only [okR, okA, okB, hl, Bool.and_true, Bool.and_eq_true, Bool.or_eq_true, beq_iff_eq, decide_eq_true_eq]
    refine ⟨⟨?_, ?_⟩, by omega, by omega⟩
    · rcases hy with (z | z) | z
      · exact .inr (.inl z.symm)
      · exact .inl z
      · exact .inr (.inr z.symm)
    · rcases hF with z | z
      · exact .inl z
      · exact .inr (.inl z.symm)
  · subst h
    have e : mkS 2 l F p y = ⟨F, l, y, p⟩ := rfl
    have o1 : own 2 = 62 := rfl
    have o2 : oth 2 = 60 := rfl
    rw [e]
    rw [o1] at hy
    rw [o2] at hF
    simp only [okR, okA, okB, hl, Bool.and_true, Bool.and_eq_true, Bool.or_eq_true, beq_iff_eq, decide_eq_true_eq]
    refine ⟨⟨?_, ?_⟩, by omega, by omega⟩
    · rcases hF with z | z
      · exact .inl z
      · exact .inr (.inl z.symm)
    · rcases hy with (z | z) | z
      · exact .inr (.inl z.symm)
      · exact .inl z
      · exact .inr (.inr z.symm)
theorem Star.okStar (T : Star w l F p S) : okR (mkS w l F p 42) = true := T.ok (.inr rfl)
theorem Star.okPart (T : Star w l F p S) {y : Nat} (h : y ∈ S) : okR (mkS w l F p y) = true := T.ok (.inl (T.mem.mp h))
theorem Star.cases (T : Star w l F p S) {y : Nat} (h : y ≠ 42) : casesOf (mkS w l F p y) = [caS w l F y] := by
  have hF := T.F42
  rcases T.hw with e | e
  · subst e
    show casesOf ⟨y, l, F, p⟩ = [⟨y, l, F⟩]
    unfold casesOf signsF
    simp [h, hF]
  · subst e
    show casesOf ⟨F, l, y, p⟩ = [⟨F, l, y⟩]
    unfold casesOf signsF
    simp [h, hF]
theorem Star.starCases (T : Star w l F p S) {c : Ca} : c ∈ casesOf (mkS w l F p 42) ↔ ∃ y ∈ S, c = caS w l F y := by
  have hF := T.F42
  have sF : ∀ e, signsF F e = [F] := fun e => by unfold signsF; rw [if_neg hF]
  have s42 : ∀ e, signsF 42 e = e :: letters := fun e => by unfold signsF; rw [if_pos rfl]
  have hm : ∀ y, y ∈ S ↔ y ∈ own w :: letters := fun y => T.pm.mem_iff
  rw [mem_cases]
  obtain ⟨a, k, b⟩ := c
  rcases T.hw with e | e
  · subst e
    show a ∈ signsF 42 60 ∧ k = l ∧ b ∈ signsF F 62 ↔ ∃ y ∈ S, (⟨a, k, b⟩ : Ca) = ⟨y, l, F⟩
    rw [s42, sF, List.mem_singleton]
    constructor
    · rintro ⟨h1, rfl, rfl⟩
      exact ⟨a, (hm a).mpr h1, rfl⟩
    · rintro ⟨y, hy, h⟩
      cases h
      exact ⟨(hm a).mp hy, rfl, rfl⟩
  · subst e
    show a ∈ signsF F 60 ∧ k = l ∧ b ∈ signsF 42 62 ↔ ∃ y ∈ S, (⟨a, k, b⟩ : Ca) = ⟨F, l, y⟩
    rw [s42, sF, List.mem_singleton]
    constructor
    · rintro ⟨rfl, rfl, h1⟩
      exact ⟨b, (hm b).mpr h1, rfl⟩
    · rintro ⟨y, hy, h⟩
      cases h
      exact ⟨rfl, rfl, (hm b).mp hy⟩
theorem Star.off (T : Star w l F p S) {c : Ca} {v : Int} : offers [mkS w l F p 42] c v ↔ offers (S.map (mkS w l F p)) c v := by
  constructor
  · rintro ⟨r, hr, hc, hv⟩
    rw [List.mem_singleton] at hr
    subst hr
    obtain ⟨y, hy, rfl⟩ := T.starCases.mp hc
    exact ⟨_, List.mem_map.mpr ⟨y, hy, rfl⟩, by rw [T.cases (T.y42 hy)]; simp, by rw [mkS_p] at hv ⊢; exact hv⟩
  · rintro ⟨r, hr, hc, hv⟩
    obtain ⟨y, hy, rfl⟩ := List.mem_map.mp hr
    rw [T.cases (T.y42 hy), List.mem_singleton] at hc
    exact ⟨_, List.mem_singleton.mpr rfl, T.starCases.mpr ⟨y, hy, hc⟩, by rw [mkS_p] at hv ⊢; exact hv⟩
theorem Star.short (T : Star w l F p S) {x z : List Ru} (c : Ca) : best (x ++ [mkS w l F p 42] ++ z) c = best (x ++ S.map (mkS w l F p) ++ z) c :=
  best_off fun v => by rw [off_app, off_app, off_app, off_app, T.off]
theorem Star.back (T : Star w l F p S) {x z : List Ru} {n y : Nat} (hy : y ∈ S) (hn : (x ++ S.map (mkS w l F p) ++ z)[n]? = some (mkS w l F p y)) (c : Ca) :
    best (without (x ++ S.map (mkS w l F p) ++ z) n ++ [mkS w l F p 42]) c = best (x ++ [mkS w l F p 42] ++ z ++ S.map (mkS w l F p)) c :=
  best_off fun v => by
    have hw : offers (x ++ S.map (mkS w l F p) ++ z) c v ↔ offers (without (x ++ S.map (mkS w l F p) ++ z) n) c v ∨ offers [mkS w l F p y] c v := by
      constructor
      · rintro ⟨r, hr, h⟩
        rcases (mem_or hn).mp hr with q | q
        · exact .inl ⟨r, q, h⟩
        · exact .inr ⟨r, List.mem_singleton.mpr q, h⟩
      · rintro (⟨r, hr, h⟩ | ⟨r, hr, h⟩)
        · exact ⟨r, (mem_or hn).mpr (.inl hr), h⟩
        · exact ⟨r, (mem_or hn).mpr (.inr (List.mem_singleton.mp hr)), h⟩
    have hp : offers [mkS w l F p y] c v → offers [mkS w l F p 42] c v := fun ⟨r, hr, h⟩ => T.off.mpr ⟨r, by rw [List.mem_singleton.mp hr]; exact List.mem_map.mpr ⟨y, hy, rfl⟩, h⟩
    rw [off_app, off_app] at hw
    rw [off_app, off_app, off_app, off_app]
    constructor
    · rintro (h | h)
      · rcases hw.mpr (.inl h) with (q | q) | q
        · exact .inl (.inl (.inl q))
        · exact .inr q
        · exact .inl (.inr q)
      · exact .inl (.inl (.inr h))
    · rintro (((h | h) | h) | h)
      · rcases hw.mp (.inl (.inl h)) with q | q
        · exact .inl q
        · exact .inr (hp q)
      · exact .inr h
      · rcases hw.mp (.inr h) with q | q
        · exact .inl q
        · exact .inr (hp q)
      · exact .inr (T.off.mpr h)
end
theorem part_at {α : Type} {x s z : List α} {k : Nat} (hk : k < s.length) : (x ++ s ++ z)[x.length + k]? = s[k]? := by
  rw [List.getElem?_append_left (by rw [List.length_append]; omega), List.getElem?_append_right (by omega), Nat.add_sub_cancel_left]
/-! ### the one left out, told -/
theorem ndl_iff {rs : List Ru} {n : Nat} (h : okBo rs) (hn : n < rs.length) : decide (n ∈ ndl rs) = sameT (table rs) (table (without rs n)) := by
  have hr : rs[n]? = some rs[n] := List.getElem?_eq_getElem hn
  rw [Bool.eq_iff_iff, decide_eq_true_eq, same_iff, ← cov_iff hr, ← nl_iff h hn]
  unfold ndl
  rw [List.mem_filter, List.mem_range]
  exact ⟨fun q => q.2, fun q => ⟨hn, q⟩⟩
theorem lor_at {rs : List Ru} {n : Nat} {r : Ru} {cp : Ca} (h : okBo rs) (hr : rs[n]? = some r) (hc : casesOf r = [cp]) (hcp : cp = ⟨r.a, r.l, r.b⟩) :
    f_law_left_out_right [.im (boD rs), .im (boD (without rs n)), .im (ruD r)] = .ok (.im (.bool true)) [.im (boD rs), .im (boD (without rs n)), .im (ruD r)] := by
  have h' : okBo (without rs n) := okBo_without h
  have okr : okR r = true := h.1 r (List.mem_of_getElem? hr)
  have okc : okC cp = true := cases_ok okr (by rw [hc]; simp)
  have sl : slD (ruD r) none (some 3) = some (caD cp) := by rw [hcp]; exact sl_ru_hi
  have ix : ixA (ruD r) (.int 3) = some (.int r.p) := by rfl
  have p1 := price_at h' okc
  have p2 := price_at h okc
  rw [cost_best okc] at p1 p2
  rw [one_at hr hc] at p2
  have q4 := alike_at h h'
  have q5 := same_at h h'
  have q6 := is_within_at h h'
  have q7 := is_within_at h' h
  rw [alk_out hr hc] at q4
  rw [same_out hr hc] at q5
  rw [within_out hr hc] at q6
  rw [within_back hr hc] at q7
  have lb := lft_back hr hc
  have G : ∀ d : D, Gd 2 70 d → ∀ d' : D, Gd 2 70 d' → ∀ d2 : D, Gd 2 70 d2 → ∀ b1 b2 b3 b4 : Bool, ∃ S, reprD [.list [d, d', d2, .bool b1, .bool b2, .bool b3, .bool b4]] = some (.str S) := fun d g d' g' d2 g2 b1 b2 b3 b4 =>
    ⟨_, rep_of (gd_list (k := 2) (W := 70) (ds := [d, d', d2, .bool b1, .bool b2, .bool b3, .bool b4]) fun x hx => by
      simp only [List.mem_cons, List.not_mem_nil, or_false] at hx
      rcases hx with z | z | z | z | z | z | z <;> rw [z]
      · exact g
      · exact g'
      · exact g2
      all_goals exact (gd_bool _).mono (by decide) (by decide)) rfl (by decide) (by simp)⟩
  have gn : Gd 2 70 .none := gd_none.mono (by decide) (by decide)
  cases q : best (without rs n) cp with
  | none =>
    rw [q] at p1 p2 q4 q5 q6
    have a1 : apart rs (without rs n) = [tagD 0 cp] := by unfold apart; rw [lft_none hr hc q, lb]; rfl
    have a2 : apart (without rs n) rs = [tagD 1 cp] := by unfold apart; rw [lft_none hr hc q, lb]; rfl
    have q1 := parting_at h h' (.inr ⟨cp, 0, a1, rfl⟩)
    have q2 := parting_at h' h (.inr ⟨cp, 1, a2, rfl⟩)
    have q3 := unlike_at h h' (.inl ⟨unl_none hr hc q, rfl⟩)
    obtain ⟨S, hS⟩ := G (tagD 0 cp) (gd_tag okc (by decide) (by decide)) (tagD 1 cp) (gd_tag okc (by decide) (by decide)) .none gn false false false true
    exact lor_core (co := none) sl ix p1 p2 q1 q2 q3 q4 q5 q6 q7 hS ⟨rfl, rfl, rfl, rfl, rfl, rfl, rfl⟩
  | some v =>
    rw [q] at p1 p2 q4 q5 q6
    have a1 : apart rs (without rs n) = [] := by unfold apart; rw [lft_some hr hc q, lb]; rfl
    have a2 : apart (without rs n) rs = [] := by unfold apart; rw [lft_some hr hc q, lb]; rfl
    have q1 := parting_at h h' (.inl ⟨a1, rfl⟩)
    have q2 := parting_at h' h (.inl ⟨a2, rfl⟩)
    by_cases hlt : r.p < v
    · have q3 := unlike_at h h' (.inr ⟨cp, unl_less hr hc q hlt, rfl⟩)
      have e5 : decide (v ≤ r.p) = false := decide_eq_false (by omega)
      replace q5 : fsame [.im (boD rs), .im (boD (without rs n))] = .ok (.im (.bool false)) [.im (boD rs), .im (boD (without rs n))] := q5.trans (by
        show FOut.ok (M.im (PyData.bool (decide (v ≤ r.p)))) _ = _
        rw [e5])
      obtain ⟨S, hS⟩ := G .none gn .none gn (caD cp) ((gd_ca okc).mono (by decide) (by decide)) true false true true
      refine lor_core (co := some v) sl ix p1 p2 q1 q2 q3 q4 q5 q6 q7 hS ?_
      unfold Told
      show (if r.p < v then _ else _)
      rw [if_pos hlt]
      exact ⟨rfl, rfl, rfl, rfl, rfl, rfl, rfl⟩
    · have q3 := unlike_at h h' (.inl ⟨unl_like hr hc q hlt, rfl⟩)
      have e5 : decide (v ≤ r.p) = true := decide_eq_true (by omega)
      replace q5 : fsame [.im (boD rs), .im (boD (without rs n))] = .ok (.im (.bool true)) [.im (boD rs), .im (boD (without rs n))] := q5.trans (by
        show FOut.ok (M.im (PyData.bool (decide (v ≤ r.p)))) _ = _
        rw [e5])
      obtain ⟨S, hS⟩ := G .none gn .none gn .none gn true true true true
      refine lor_core (co := some v) sl ix p1 p2 q1 q2 q3 q4 q5 q6 q7 hS ?_
      unfold Told
      show (if r.p < v then _ else _)
      rw [if_neg hlt]
      exact ⟨rfl, rfl, rfl, rfl, rfl, rfl, rfl⟩
end FDL
namespace FDL
open PySem L2 FD
theorem in_nats {n : Nat} {ns : List Nat} : inA (.int (n : Nat)) (natsD ns) = some (.bool (decide (n ∈ ns))) := by
  have hf : flatAll (ns.map fun k => PyData.int (k : Nat)) = true := by
    unfold flatAll
    rw [List.all_map]
    simp [FD.ret, FD.lif, FD.bnd, FD.var, FD.bin, FD.un, FD.tst, FD.andT, FD.orT, FD.notT, FD.andV, FD.orV, FD.notV, FD.ifE, FD.nilA, FD.consA, FD.tupE, FD.lstE, FD.seqS, FD.exprS, FD.retS, FD.retM, FD.ifS, FD.stoM, FD.setS, FD.setM, FD.gN, FD.gsNil, FD.gsCons, FD.gT, FD.goS, FD.asgS, FD.parS, FD.augS, FD.itE, FD.itA, FD.cbE, FD.slE, FD.intE, FD.arN, FD.arD, FD.arB, FD.callD, FD.callM, FD.slotsOf, FD.argM, FD.putB, FD.isIm, FD.endF, FD.backs, FD.args0, FD.defF, FD.chn, FD.lstM, FD.dtM, FD.dkM, FD.imM, FD.frzE, FD.has, FD.chk, FD.pk, FD.pkLen, FD.peekD, FD.pkL, FD.pkR, flatD]
  show inD _ (.tuple _) = _
  unfold inD inB inTOk
  simp only [hf, flatD, Bool.and_self, if_true, Option.map_some]
  congr 2
  unfold memD
  rw [List.any_map, Bool.eq_iff_iff, List.any_eq_true, decide_eq_true_eq]
  constructor
  · rintro ⟨k, hk, e⟩
    have : ((k : Int) == (n : Int)) = true := by simpa [PyData.eqv] using e
    rw [beq_iff_eq] at this
    have : k = n := by omega
    rwa [← this]
  · intro hk
    exact ⟨n, hk, by simp [FD.ret, FD.lif, FD.bnd, FD.var, FD.bin, FD.un, FD.tst, FD.andT, FD.orT, FD.notT, FD.andV, FD.orV, FD.notV, FD.ifE, FD.nilA, FD.consA, FD.tupE, FD.lstE, FD.seqS, FD.exprS, FD.retS, FD.retM, FD.ifS, FD.stoM, FD.setS, FD.setM, FD.gN, FD.gsNil, FD.gsCons, FD.gT, FD.goS, FD.asgS, FD.parS, FD.augS, FD.itE, FD.itA, FD.cbE, FD.slE, FD.intE, FD.arN, FD.arD, FD.arB, FD.callD, FD.callM, FD.slotsOf, FD.argM, FD.putB, FD.isIm, FD.endF, FD.backs, FD.args0, FD.defF, FD.chn, FD.lstM, FD.dtM, FD.dkM, FD.imM, FD.frzE, FD.has, FD.chk, FD.pk, FD.pkLen, FD.peekD, FD.pkL, FD.pkR, PyData.eqv]⟩
/-! ### the law -/
theorem star_wp {a b c : Int} {cs : List Nat} {K : M → List M → Prop} (h1 : 1 ≤ cs.length) (hl : cs.length ≤ 100) (hcs : ∀ x ∈ cs, isLet x = true) (hb : 0 ≤ b) (hb2 : b < 700000)
    (h : ∀ (a' b' w : Int) (l F : Nat) (p : Int) (S : List Nat), Star w l F p S → b ≤ b' → b' ≤ b + 40 → K (.im (.tuple [ruD (mkS w l F p 42), boD (S.map (mkS w l F p))])) [stM a' b' c, .im (sgsD cs)]) : wpR (f_law_star [stM a b c, .im (sgsD cs)]) K := by
  obtain ⟨a', b', w, l, F, p, S, hw, hl1, hF, hp0, hp1, pm, g1, g2, e⟩ := star_at (a := a) (b := b) (c := c) h1 hl hb hb2
  rw [e, wpR_ok]
  exact h a' b' w l F p S ⟨hw, hcs l hl1, hF.imp (hcs F) id, hp0, hp1, pm⟩ g1 g2
theorem add_bo7 {x y : List Ru} (h : x.length + y.length ≤ 1000) : addD (boD x) (boD y) = some (boD (x ++ y)) := by
  have fw : few ((x.map ruD).length + (y.map ruD).length) = true := by
    rw [List.length_map, List.length_map]
    exact decide_eq_true (by omega)
  unfold boD addD
  simp only [fw, if_true]
  rw [List.map_append]
theorem sl_boH {rs : List Ru} {n : Nat} : slD (boD rs) none (some (n : Int)) = some (boD (rs.take n)) := by
  have := sl_hi (ds := rs.map ruD) (n := n)
  rw [← List.map_take] at this
  exact this
theorem sl_boL {rs : List Ru} {n : Nat} : slD (boD rs) (some (n : Int)) none = some (boD (rs.drop n)) := by
  have := sl_lo (ds := rs.map ruD) (n := n)
  rw [← List.map_drop] at this
  exact this
theorem isD_opt (x : Option Int) : isD (optD x) .none = some (.bool x.isNone) := by cases x <;> rfl
/-- the turn's numbers, from its drawn things -/
structure Tn7 (R W0 Sh Rst RS SP : List Ru) (st : Ru) (pa : List Ru) (at_ out : Nat) (pt : Ru) : Prop where
  h1 : okBo Sh
  h2 : okBo W0
  h3 : okBo Rst
  h4 : okBo RS
  h5 : okBo SP
  eS : Sh = R.take at_ ++ [st] ++ R.drop at_
  eW : W0 = R.take at_ ++ pa ++ R.drop at_
  eR : Rst = without W0 (at_ + out)
  eRS : RS = Rst ++ [st]
  eSP : SP = Sh ++ pa
  hpt : pa[out]? = some pt
  wn : W0[at_ + out]? = some pt
  same1 : sameT (table Sh) (table W0) = true
  many1 : (table Sh).length = (table W0).length
  lor : f_law_left_out_right [.im (boD W0), .im (boD Rst), .im (ruD pt)] = .ok (.im (.bool true)) [.im (boD W0), .im (boD Rst), .im (ruD pt)]
  need : decide (at_ + out ∈ ndl W0) = sameT (table W0) (table Rst)
  co : ∃ co : Option Int, fprice [.im (boD Rst), .im (caD ⟨pt.a, pt.l, pt.b⟩)] = .ok (.im (optD co)) [.im (boD Rst), .im (caD ⟨pt.a, pt.l, pt.b⟩)] ∧ (table W0).length = (table Rst).length + (if co.isNone then 1 else 0)
  same2 : sameT (table RS) (table SP) = true
theorem tn7_of {w : Int} {l F : Nat} {p : Int} {S : List Nat} (T : Star w l F p S) {R : List Ru} (hR : okBo R) (h8 : R.length ≤ 8) {at_ out : Nat} (ha : at_ ≤ R.length) (ho : out < 27) :
    ∃ pt, Tn7 R (R.take at_ ++ S.map (mkS w l F p) ++ R.drop at_) (R.take at_ ++ [mkS w l F p 42] ++ R.drop at_) (without (R.take at_ ++ S.map (mkS w l F p) ++ R.drop at_) (at_ + out))
      (without (R.take at_ ++ S.map (mkS w l F p) ++ R.drop at_) (at_ + out) ++ [mkS w l F p 42]) (R.take at_ ++ [mkS w l F p 42] ++ R.drop at_ ++ S.map (mkS w l F p)) (mkS w l F p 42) (S.map (mkS w l F p)) at_ out pt := by
  have l27 : (S.map (mkS w l F p)).length = 27 := by rw [List.length_map, T.len]
  have lt : (R.take at_).length = at_ := by rw [List.length_take]; omega
  have ld : (R.drop at_).length = R.length - at_ := List.length_drop ..
  have okt : ∀ r ∈ R.take at_, okR r = true := fun r h => hR.1 r (List.mem_of_mem_take h)
  have okd : ∀ r ∈ R.drop at_, okR r = true := fun r h => hR.1 r (List.mem_of_mem_drop h)
  have okp : ∀ r ∈ S.map (mkS w l F p), okR r = true := fun r h => by
    obtain ⟨y, hy, rfl⟩ := List.mem_map.mp h
    exact T.okPart hy
  have oks : ∀ r ∈ [mkS w l F p 42], okR r = true := fun r h => by rw [List.mem_singleton.mp h]; exact T.okStar
  have app : ∀ {x y : List Ru}, (∀ r ∈ x, okR r = true) → (∀ r ∈ y, okR r = true) → ∀ r ∈ x ++ y, okR r = true := fun hx hy r h => (List.mem_append.mp h).elim (hx r) (hy r)
  have hoS : out < S.length := by rw [T.len]; exact ho
  have gp : (S.map (mkS w l F p))[out]? = some (mkS w l F p S[out]) := by rw [List.getElem?_map, List.getElem?_eq_getElem hoS]; rfl
  have hy : S[out] ∈ S := List.getElem_mem hoS
  have wn : (R.take at_ ++ S.map (mkS w l F p) ++ R.drop at_)[at_ + out]? = some (mkS w l F p S[out]) := by
    have := part_at (x := R.take at_) (s := S.map (mkS w l F p)) (z := R.drop at_) (k := out) (by omega)
    rw [lt] at this
    rw [this, gp]
  have k2 : okBo (R.take at_ ++ S.map (mkS w l F p) ++ R.drop at_) := ⟨app (app okt okp) okd, by rw [List.length_append, List.length_append, l27]; omega⟩
  have k1 : okBo (R.take at_ ++ [mkS w l F p 42] ++ R.drop at_) := ⟨app (app okt oks) okd, by rw [List.length_append, List.length_append, List.length_singleton]; omega⟩
  have hlt : at_ + out < (R.take at_ ++ S.map (mkS w l F p) ++ R.drop at_).length := by rw [List.length_append, List.length_append, l27]; omega
  have k3 := okBo_without (n := at_ + out) k2
  have l3 := without_len hlt
  have hc := T.cases (T.y42 hy)
  have ec : caS w l F S[out] = ⟨(mkS w l F p S[out]).a, (mkS w l F p S[out]).l, (mkS w l F p S[out]).b⟩ := by
    unfold caS mkS
    split <;> rfl
  have okc : okC (caS w l F S[out]) = true := cases_ok (T.okPart hy) (by rw [hc]; simp)
  have pr := price_at k3 okc
  rw [cost_best okc, ec] at pr
  have lo := len_out wn hc
  rw [ec] at lo
  exact ⟨mkS w l F p S[out], {
    h1 := k1, h2 := k2, h3 := k3
    h4 := ⟨app k3.1 oks, by rw [List.length_append, List.length_singleton]; rw [List.length_append, List.length_append, l27] at l3; omega⟩
    h5 := ⟨app k1.1 okp, by rw [List.length_append, List.length_append, List.length_append, List.length_singleton, l27]; omega⟩
    eS := rfl, eW := rfl, eR := rfl, eRS := rfl, eSP := rfl
    hpt := gp, wn := wn
    same1 := (same_iff _ _).mpr fun c => T.short c
    many1 := len_same fun c => T.short c
    lor := lor_at k2 wn hc ec
    need := ndl_iff k2 hlt
    co := ⟨_, pr, lo⟩
    same2 := (same_iff _ _).mpr fun c => T.back hy wn c }⟩
theorem law_true : ∀ ns : List Int, ns.length ≤ 63 → ∃ ms', flaw [.im (.list (ns.map .int))] = .ok (.im (.bool true)) ms' := by
  intro ns hn
  suffices h : wpR (flaw [.im (.list (ns.map .int))]) fun r _ => r = .im (.bool true) by
    obtain ⟨r, ms, h1, h2⟩ := wpR_ex h
    exact ⟨ms, by rw [h1, h2]⟩
  unfold flaw
  refine wpR_def rfl ?_
  have cut : slD (.list (ns.map PyData.int ++ [.int 0])) none (some 9) = some (.list (((ns ++ [0]).take 9).map PyData.int)) := cells_cut 9
  have hq : ∀ q ∈ ((ns ++ [0]).take 9).zipIdx, q.2 < 9 := fun q h => cells_mem h
  generalize (ns ++ [0]).take 9 = cells at cut hq
  simp -implicitDefEqProofs [glaw, args0]
  refine ⟨by omega, ?_⟩
  simp -implicitDefEqProofs [cut, enA, enum_ints]
  refine for_inv (em := fun q : Int × Nat => PyData.tuple [.int (q.2 : Nat), .int q.1]) (as := cells.zipIdx) (fun _ e => ∃ x1 x2 x3 x4 x5 x6 x7 x8 x9 xA xB xC xD xE, e = [some (.im (.list (ns.map .int))), x1, x2, x3, x4, x5, x6, x7, x8, x9, xA, xB, xC, xD, xE]) ⟨_, _, _, _, _, _, _, _, _, _, _, _, _, _, rfl⟩ ?_ ?_
  · rintro done q rest e hs ⟨x1, x2, x3, x4, x5, x6, x7, x8, x9, xA, xB, xC, xD, xE, rfl⟩
    have hk := hq q (by rw [hs]; simp)
    simp -implicitDefEqProofs
    refine stream_wp (by omega) (by omega) fun a c => ?_
    simp -implicitDefEqProofs
    refine take_wp (by decide) (by decide) (by decide) (by decide) fun r1 a1 h10 h11 => ?_
    simp -implicitDefEqProofs
    refine signs_wp (by omega) (by omega) (by decide) (by decide) fun a2 cs hcl hcs => ?_
    simp -implicitDefEqProofs
    refine take_wp (by decide) (by decide) (by omega) (by omega) fun r2 a3 h20 h21 => ?_
    simp -implicitDefEqProofs
    refine rules_wp (by omega) (by omega) hcs h20 (by omega) (by omega) (by omega) fun a4 b4 R okf lf hb1 hb2 => ?_
    simp -implicitDefEqProofs
    refine star_wp (by omega) (by omega) hcs (by omega) (by omega) fun a5 b5 w l F p S T hb3 hb4 => ?_
    have lR := len_bo (rs := R)
    simp -implicitDefEqProofs [lR]
    refine take_wp (by omega) (by omega) (by omega) (by omega) fun r3 a6 h30 h31 => ?_
    simp -implicitDefEqProofs
    refine take_wp (by decide) (by decide) (by omega) (by omega) fun r4 a7 h40 h41 => ?_
    obtain ⟨n, rfl⟩ := Int.eq_ofNat_of_zero_le h30
    obtain ⟨o, rfl⟩ := Int.eq_ofNat_of_zero_le h40
    obtain ⟨pt, U⟩ := tn7_of T okf (by omega) (at_ := n) (out := o) (by omega) (by omega)
    have f1 : slD (boD R) none (some (n : Int)) = some (boD (R.take n)) := sl_boH
    have f2 : slD (boD R) (some (n : Int)) none = some (boD (R.drop n)) := sl_boL
    obtain ⟨st, hst⟩ : ∃ st, st = mkS w l F p 42 := ⟨_, rfl⟩
    obtain ⟨pa, hpa⟩ : ∃ pa, pa = S.map (mkS w l F p) := ⟨_, rfl⟩
    have l27 : pa.length = 27 := by rw [hpa, List.length_map, T.len]
    rw [← hst, ← hpa] at U
    rw [← hst, ← hpa]
    clear hst hpa T
    have lt : (R.take n).length ≤ 8 := by rw [List.length_take]; omega
    have ld : (R.drop n).length ≤ 8 := by rw [List.length_drop]; omega
    obtain ⟨Sh, hSh⟩ : ∃ s, s = R.take n ++ [st] ++ R.drop n := ⟨_, rfl⟩
    obtain ⟨W0, hW0⟩ : ∃ s, s = R.take n ++ pa ++ R.drop n := ⟨_, rfl⟩
    rw [← hSh, ← hW0] at U
    obtain ⟨Rst, hR0⟩ : ∃ s, s = without W0 (n + o) := ⟨_, rfl⟩
    rw [← hR0] at U
    have f3 : addD (boD (R.take n)) (.tuple [ruD st]) = some (boD (R.take n ++ [st])) := add_bo7 (y := [st]) (by rw [List.length_singleton]; omega)
    have f4 : addD (boD (R.take n ++ [st])) (boD (R.drop n)) = some (boD Sh) := by rw [hSh]; exact add_bo7 (by rw [List.length_append, List.length_singleton]; omega)
    have f5 : addD (boD (R.take n)) (boD pa) = some (boD (R.take n ++ pa)) := add_bo7 (by omega)
    have f6 : addD (boD (R.take n ++ pa)) (boD (R.drop n)) = some (boD W0) := by rw [hW0]; exact add_bo7 (by rw [List.length_append]; omega)
    have s1 := same_at U.h1 U.h2
    rw [U.same1] at s1
    have m1 := how_many_at U.h1
    have m2 := how_many_at U.h2
    have m3 := how_many_at U.h3
    rw [U.many1] at m1
    have wl := U.h2.2
    have f7 : slD (boD W0) none (some ((n : Int) + (o : Int))) = some (boD (W0.take (n + o))) := sl_boH (n := n + o)
    have f8 : slD (boD W0) (some ((n : Int) + (o : Int) + 1)) none = some (boD (W0.drop (n + o + 1))) := sl_boL (n := n + o + 1)
    have f9 : addD (boD (W0.take (n + o))) (boD (W0.drop (n + o + 1))) = some (boD Rst) := by rw [hR0]; exact add_bo7 (by rw [List.length_take, List.length_drop]; omega)
    have f10 : ixA (boD pa) (.int (o : Int)) = some (ruD pt) := ix_bo U.hpt
    have lo := U.lor
    have nd := needless_at U.h2
    have f11 : inA (.int ((n : Int) + (o : Int))) (natsD (ndl W0)) = some (.bool (decide (n + o ∈ ndl W0))) := in_nats (n := n + o)
    have s2 := same_at U.h2 U.h3
    rw [U.need] at f11
    obtain ⟨B, hB⟩ : ∃ B, B = sameT (table W0) (table Rst) := ⟨_, rfl⟩
    rw [← hB] at f11 s2
    have f12 : neD (.bool B) (.bool B) = some (.bool false) := by cases B <;> rfl
    obtain ⟨co, pr, k1⟩ := U.co
    have f13 : slD (ruD pt) none (some 3) = some (caD ⟨pt.a, pt.l, pt.b⟩) := sl_ru_hi
    have f14 := isD_opt co
    have f15 : intB [.bool co.isNone] = some (.int (if co.isNone then 1 else 0)) := rfl
    obtain ⟨e, he⟩ : ∃ e : Int, e = if co.isNone then 1 else 0 := ⟨_, rfl⟩
    have ke : (((table W0).length : Nat) : Int) - e = ((table Rst).length : Int) := by
      rw [he]
      split at k1 <;> rename_i hz <;> simp only [hz, if_true, if_false, Bool.false_eq_true] <;> omega
    rw [← he] at f15
    have f16 : addD (boD Rst) (.tuple [ruD st]) = some (boD (Rst ++ [st])) := add_bo7 (y := [st]) (by have := U.h3.2; rw [List.length_singleton]; omega)
    have f17 : addD (boD Sh) (boD pa) = some (boD (Sh ++ pa)) := add_bo7 (by have := U.h1.2; omega)
    have s3 := same_at U.h4 U.h5
    rw [U.same2] at s3
    obtain ⟨kW, hkW⟩ : ∃ k : Int, k = ((table W0).length : Int) := ⟨_, rfl⟩
    obtain ⟨kR, hkR⟩ : ∃ k : Int, k = ((table Rst).length : Int) := ⟨_, rfl⟩
    rw [← hkW] at m1 m2 ke
    rw [← hkR] at m3 ke
    have f18 : subD (.int kW) (.int e) = some (.int kR) := by
      rw [← ke]
      simp
    have f19 : isnD (.bool true) (.bool true) = some (.bool false) := rfl
    have f20 : neD (.int kW) (.int kW) = some (.bool false) := by simp
    have f21 : neD (.int kR) (.int kR) = some (.bool false) := by simp
    clear U k1 ke
    generalize boD R = dR at f1 f2 ⊢
    generalize boD (R.take n ++ [st]) = d1 at f3 f4
    generalize boD (R.take n ++ pa) = d2 at f5 f6
    generalize boD (R.take n) = d3 at f1 f3 f5
    generalize boD (R.drop n) = d4 at f2 f4 f6
    generalize boD (Sh ++ pa) = d5 at f17 s3
    generalize boD (Rst ++ [st]) = d6 at f16 s3
    generalize boD Sh = d7 at f4 s1 m1 f17
    generalize boD (W0.take (n + o)) = d8 at f7 f9
    generalize boD (W0.drop (n + o + 1)) = d9 at f8 f9
    generalize boD W0 = d10 at f6 s1 m2 f7 f8 lo nd s2
    generalize boD Rst = d11 at f9 m3 lo s2 f16 pr
    generalize boD pa = d12 at f5 f10 f17 ⊢
    generalize ruD pt = d13 at f10 lo f13
    generalize ruD st = d14 at f3 f16 ⊢
    generalize caD ⟨pt.a, pt.l, pt.b⟩ = d15 at f13 pr
    generalize optD co = d16 at pr f14
    generalize natsD (ndl W0) = d17 at nd f11
    simp -implicitDefEqProofs [f1, f2, f3, f4, f5, f6, f7, f8, f9, f10, f11, f12, f13, f14, f15, f16, f17, f18, f19, f20, f21, s1, s2, s3, m1, m2, m3, lo, nd, pr]
  · rintro e ⟨x1, x2, x3, x4, x5, x6, x7, x8, x9, xA, xB, xC, xD, xE, rfl⟩
    simp
end FDL
namespace FDL
open PySem L2 FD
variable [TabT]
/-! The defs of the text: places, scopes, what each denotes, the derivations. Printed by gen.py. -/
def top (i : Nat) : Stmt := PySem.Challenge.pw_strikeline_k07_whole_a_star_is_all.main.body.getD i (.Pass ⟨0, 0, 0, 0⟩)
abbrev sis_whole : Stmt := top 7
abbrev sis_letter : Stmt := top 8
abbrev sis_side : Stmt := top 15
abbrev srule_looks : Stmt := top 16
abbrev sneed_book : Stmt := top 17
abbrev sneed_case : Stmt := top 18
abbrev sfits_case : Stmt := top 19
abbrev sprice_there : Stmt := top 20
abbrev sprice : Stmt := top 21
abbrev ssigns_for : Stmt := top 22
abbrev srule_cases : Stmt := top 23
abbrev sprice_table : Stmt := top 24
abbrev show_many : Stmt := top 25
abbrev stwo_tables : Stmt := top 26
abbrev salike : Stmt := top 27
abbrev ssame : Stmt := top 28
abbrev sis_within : Stmt := top 29
abbrev sparting : Stmt := top 30
abbrev sunlike_price : Stmt := top 31
abbrev sis_needless : Stmt := top 32
abbrev sneedless : Stmt := top 33
abbrev s_law_mixed : Stmt := top 35
abbrev s_law_stream : Stmt := top 36
abbrev s_law_take : Stmt := top 37
abbrev s_law_signs : Stmt := top 38
abbrev s_law_side : Stmt := top 39
abbrev s_law_rule : Stmt := top 40
abbrev s_law_rules : Stmt := top 41
abbrev s_law_star : Stmt := top 42
abbrev s_law_left_out_right : Stmt := top 43
abbrev slaw : Stmt := top 44
structure Txt (mg : Str → Option Value) : Prop where
  b_all : mg "all" = none
  b_any : mg "any" = none
  b_bool : mg "bool" = none
  b_enumerate : mg "enumerate" = none
  b_int : mg "int" = none
  b_isinstance : mg "isinstance" = none
  b_len : mg "len" = none
  b_list : mg "list" = none
  b_min : mg "min" = none
  b_range : mg "range" = none
  b_repr : mg "repr" = none
  b_sorted : mg "sorted" = none
  b_str : mg "str" = none
  b_tuple : mg "tuple" = none
  c_ANY_SIGN : Con mg "ANY_SIGN" (.str "*")
  c_FIRST_END : Con mg "FIRST_END" (.str "<")
  c_LAST_END : Con mg "LAST_END" (.str ">")
  c_LETTERS : Con mg "LETTERS" (.str "abcdefghijklmnopqrstuvwxyz")
  c_MOST_PRICE : Con mg "MOST_PRICE" (.int 999)
  c_MOST_RULES : Con mg "MOST_RULES" (.int 80)
section
variable {P : Program} {w : World} {K : PySem.W.Frag} {mg : Str → Option Value} {base : Heap}
theorem scis_whole : FnScope ["thing", "least", "most"] ["thing", "least", "most"] (defScope sis_whole) := ⟨rfl, rfl, rfl, by decide +kernel, rfl, by decide +kernel, by decide +kernel⟩
theorem bdis_whole (T : Txt mg) : Body P w K mg base 0 "is_whole" sis_whole ["thing", "least", "most"] [] gis_whole := fun f cdv A outer s H vs E hg hr => (dss_one (ds_ret (de_and (de_isi kit_int T.b_isinstance T.b_int (de_var 0)) (de_and (de_not (de_isi kit_bool T.b_isinstance T.b_bool (de_var 0))) (de_one (de_chain od_le od_le (de_var 1) (de_var 0) (de_var 2)))))))
theorem scis_letter : FnScope ["thing"] ["thing"] (defScope sis_letter) := ⟨rfl, rfl, rfl, by decide +kernel, rfl, by decide +kernel, by decide +kernel⟩
theorem bdis_letter (T : Txt mg) : Body P w K mg base 0 "is_letter" sis_letter ["thing"] [] gis_letter := fun f cdv A outer s H vs E hg hr => (dss_one (ds_ret (de_and (de_isi kit_str T.b_isinstance T.b_str (de_var 0)) (de_and (de_cmp (od_eqA hr) (de_callB cb_len T.b_len (da_cons (de_var 0) da_nil)) de_int) (de_one (de_cmp (od_inA hr) (de_var 0) (de_con T.c_LETTERS)))))))
theorem scis_side : FnScope ["thing", "end"] ["thing", "end"] (defScope sis_side) := ⟨rfl, rfl, rfl, by decide +kernel, rfl, by decide +kernel, by decide +kernel⟩
theorem bdis_side (T : Txt mg) (h_is_letter : Has P w K mg base 1 "is_letter" ["thing"] fis_letter) : Body P w K mg base 1 "is_side" sis_side ["thing", "end"] [] gis_side := fun f cdv A outer s H vs E hg hr => (dss_one (ds_ret (de_or (de_callH h_is_letter hg (hr.mono (by decide)) (dr_d (de_var 0) dr_nil)) (de_one (de_and (de_isi kit_str T.b_isinstance T.b_str (de_var 0)) (de_one (de_cmp (od_inA hr) (de_var 0) (de_tup (da_cons (de_var 1) (da_cons (de_con T.c_ANY_SIGN) da_nil))))))))))
theorem scrule_looks : FnScope ["thing", "sides"] ["thing"] (defScope srule_looks) := ⟨rfl, rfl, rfl, by decide +kernel, rfl, by decide +kernel, by decide +kernel⟩
theorem bdrule_looks (T : Txt mg) (h_is_side : Has P w K mg base 2 "is_side" ["thing", "end"] fis_side) (h_is_letter : Has P w K mg base 1 "is_letter" ["thing"] fis_letter) (k_is_whole_1_most : HasK P w K mg base 1 "is_whole" ["thing", "least", "most"] fis_whole 1 ["most"] [.inl 0, .inr 0, .inl 1] [.int 0]) : Body P w K mg base 2 "rule_looks" srule_looks ["thing", "sides"] [] grule_looks := fun f cdv A outer s H vs E hg hr => (dss_cons (ds_set 1 scrule_looks.nd (de_lst (da_cons (de_callH h_is_side hg (hr.mono (by decide)) (dr_d (de_ixA hr (de_var 0) de_int) (dr_d (de_con T.c_FIRST_END) dr_nil))) (da_cons (de_callH h_is_letter hg (hr.mono (by decide)) (dr_d (de_ixA hr (de_var 0) de_int) dr_nil)) (da_cons (de_callH h_is_side hg (hr.mono (by decide)) (dr_d (de_ixA hr (de_var 0) de_int) (dr_d (de_con T.c_LAST_END) dr_nil))) da_nil))))) (dss_one (ds_ret (de_bin od_add (de_var 1) (de_lst (da_cons (de_callHK k_is_whole_1_most hg (hr.mono (by decide)) (dr_d (de_ixA hr (de_var 0) de_int) dr_nil) (dk_cons (de_con T.c_MOST_PRICE) dk_nil)) da_nil))))))
theorem scneed_book : FnScope ["thing", "place", "rule"] ["thing"] (defScope sneed_book) := ⟨rfl, rfl, rfl, by decide +kernel, rfl, by decide +kernel, by decide +kernel⟩
theorem bdneed_book (T : Txt mg) (h_rule_looks : Has P w K mg base 3 "rule_looks" ["thing"] frule_looks) : Body P w K mg base 3 "need_book" sneed_book ["thing", "place", "rule"] [] gneed_book := fun f cdv A outer s H vs E hg hr => (dss_cons (ds_if (dt_w (dw_or (dt_not (dt_val (de_isi kit_tuple T.b_isinstance T.b_tuple (de_var 0)))) (dw_or1 (dt_cmp od_gt (de_callB cb_len T.b_len (da_cons (de_var 0) da_nil)) (de_con T.c_MOST_RULES))))) (dss_one ds_never) dss_nil) (dss_one (ds_for (di_enum T.b_enumerate (da_cons (de_var 0) da_nil)) (dg_tup (dgs_cons (dg_name 1 scneed_book.nd) (dgs_cons (dg_name 2 scneed_book.nd) dgs_nil))) (dss_one (ds_if (dt_w (dw_or (dt_not (dt_val (de_isi kit_tuple T.b_isinstance T.b_tuple (de_var 2)))) (dw_or (dt_cmp (od_ne hr) (de_callB cb_len T.b_len (da_cons (de_var 2) da_nil)) de_int) (dw_or1 (dt_cmp (od_inA hr) de_bl (de_callH h_rule_looks hg (hr.mono (by decide)) (dr_d (de_var 2) dr_nil))))))) (dss_one ds_never) dss_nil)) PassesOwn.never)))
theorem scneed_case : FnScope ["thing", "ahead", "letter", "behind"] ["thing"] (defScope sneed_case) := ⟨rfl, rfl, rfl, by decide +kernel, rfl, by decide +kernel, by decide +kernel⟩
theorem bdneed_case (T : Txt mg) (h_is_side : Has P w K mg base 2 "is_side" ["thing", "end"] fis_side) (h_is_letter : Has P w K mg base 1 "is_letter" ["thing"] fis_letter) : Body P w K mg base 2 "need_case" sneed_case ["thing", "ahead", "letter", "behind"] [] gneed_case := fun f cdv A outer s H vs E hg hr => (dss_cons (ds_if (dt_w (dw_or (dt_not (dt_val (de_isi kit_tuple T.b_isinstance T.b_tuple (de_var 0)))) (dw_or1 (dt_cmp (od_ne hr) (de_callB cb_len T.b_len (da_cons (de_var 0) da_nil)) de_int)))) (dss_one ds_never) dss_nil) (dss_cons (ds_asg (de_var 0) (dg_tup (dgs_cons (dg_name 1 scneed_case.nd) (dgs_cons (dg_name 2 scneed_case.nd) (dgs_cons (dg_name 3 scneed_case.nd) dgs_nil)))) (nx_tup (nx_cons (nx_name 1) (nx_cons (nx_name 2) (nx_cons (nx_name 3) nx_nil))))) (dss_cons (ds_if (dt_w (dw_or (dt_not (dt_val (de_callH h_is_side hg (hr.mono (by decide)) (dr_d (de_var 1) (dr_d (de_con T.c_FIRST_END) dr_nil))))) (dw_or (dt_not (dt_val (de_callH h_is_letter hg (hr.mono (by decide)) (dr_d (de_var 2) dr_nil)))) (dw_or1 (dt_not (dt_val (de_callH h_is_side hg (hr.mono (by decide)) (dr_d (de_var 3) (dr_d (de_con T.c_LAST_END) dr_nil))))))))) (dss_one ds_never) dss_nil) (dss_one (ds_if (dt_w (dw_or (dt_cmp (od_eqA hr) (de_var 1) (de_con T.c_ANY_SIGN)) (dw_or1 (dt_cmp (od_eqA hr) (de_var 3) (de_con T.c_ANY_SIGN))))) (dss_one ds_never) dss_nil)))))
theorem scfits_case : FnScope ["rule", "case"] ["rule", "case"] (defScope sfits_case) := ⟨rfl, rfl, rfl, by decide +kernel, rfl, by decide +kernel, by decide +kernel⟩
theorem bdfits_case (T : Txt mg) : Body P w K mg base 0 "fits_case" sfits_case ["rule", "case"] [] gfits_case := fun f cdv A outer s H vs E hg hr => (dss_one (ds_ret (de_and (de_cmp (od_eqA hr) (de_ixA hr (de_var 0) de_int) (de_ixA hr (de_var 1) de_int)) (de_and (de_cmp (od_inA hr) (de_ixA hr (de_var 0) de_int) (de_tup (da_cons (de_ixA hr (de_var 1) de_int) (da_cons (de_con T.c_ANY_SIGN) da_nil)))) (de_one (de_cmp (od_inA hr) (de_ixA hr (de_var 0) de_int) (de_tup (da_cons (de_ixA hr (de_var 1) de_int) (da_cons (de_con T.c_ANY_SIGN) da_nil)))))))))
theorem scprice_there : FnScope ["book", "case", "prices", "rule"] ["book", "case"] (defScope sprice_there) := ⟨rfl, rfl, rfl, by decide +kernel, rfl, by decide +kernel, by decide +kernel⟩
theorem bdprice_there (T : Txt mg) (h_fits_case : Has P w K mg base 1 "fits_case" ["rule", "case"] ffits_case) : Body P w K mg base 1 "price_there" sprice_there ["book", "case", "prices", "rule"] [] gprice_there := fun f cdv A outer s H vs E hg hr => (dss_cons (ds_setLc 2 [("rule", 3)] scprice_there.nd (di_any (de_var 0)) (blkOk_by (by kernel_rfl)) (fun _ _ _ _ _ => (dg_name 3 scprice_there.nd)) (fun _ _ _ _ _ => (dts_one (dt_val (de_callH h_fits_case hg (hr.mono (by decide)) (dr_d (de_var 3) (dr_d (de_var 1) dr_nil)))))) (fun _ _ _ _ _ => (de_ixA hr (de_var 3) de_int)) (sw_true rfl rfl rfl rfl)) (dss_one (ds_ret (de_if (dt_cmp (od_ne hr) (de_var 2) (de_lst da_nil)) (de_callB cb_min T.b_min (da_cons (de_var 2) da_nil)) de_non))))
theorem scprice : FnScope ["book", "case"] ["book", "case"] (defScope sprice) := ⟨rfl, rfl, rfl, by decide +kernel, rfl, by decide +kernel, by decide +kernel⟩
theorem bdprice (T : Txt mg) (h_need_book : Has P w K mg base 4 "need_book" ["thing"] fneed_book) (h_need_case : Has P w K mg base 3 "need_case" ["thing"] fneed_case) (h_price_there : Has P w K mg base 2 "price_there" ["book", "case"] fprice_there) : Body P w K mg base 4 "price" sprice ["book", "case"] [] gprice := fun f cdv A outer s H vs E hg hr => (dss_cons (ds_expr (de_callH h_need_book hg (hr.mono (by decide)) (dr_d (de_var 0) dr_nil))) (dss_cons (ds_expr (de_callH h_need_case hg (hr.mono (by decide)) (dr_d (de_var 1) dr_nil))) (dss_one (ds_ret (de_callH h_price_there hg (hr.mono (by decide)) (dr_d (de_var 0) (dr_d (de_var 1) dr_nil)))))))
theorem scsigns_for : FnScope ["side", "end"] ["side", "end"] (defScope ssigns_for) := ⟨rfl, rfl, rfl, by decide +kernel, rfl, by decide +kernel, by decide +kernel⟩
theorem bdsigns_for (T : Txt mg) : Body P w K mg base 0 "signs_for" ssigns_for ["side", "end"] [] gsigns_for := fun f cdv A outer s H vs E hg hr => (dss_one (ds_ret (de_if (dt_cmp (od_eqA hr) (de_var 0) (de_con T.c_ANY_SIGN)) (de_bin od_add (de_tup (da_cons (de_var 1) da_nil)) (de_callT cb_tuple T.b_tuple (da_cons (de_con T.c_LETTERS) da_nil))) (de_tup (da_cons (de_var 0) da_nil)))))
theorem scrule_cases : FnScope ["rule", "aheads", "behinds", "ahead", "behind"] ["rule"] (defScope srule_cases) := ⟨rfl, rfl, rfl, by decide +kernel, rfl, by decide +kernel, by decide +kernel⟩
theorem bdrule_cases (T : Txt mg) (h_signs_for : Has P w K mg base 1 "signs_for" ["side", "end"] fsigns_for) : Body P w K mg base 1 "rule_cases" srule_cases ["rule", "aheads", "behinds", "ahead", "behind"] [] grule_cases := fun f cdv A outer s H vs E hg hr => (dss_cons (ds_asg (de_tup (da_cons (de_callH h_signs_for hg (hr.mono (by decide)) (dr_d (de_ixA hr (de_var 0) de_int) (dr_d (de_con T.c_FIRST_END) dr_nil))) (da_cons (de_callH h_signs_for hg (hr.mono (by decide)) (dr_d (de_ixA hr (de_var 0) de_int) (dr_d (de_con T.c_LAST_END) dr_nil))) da_nil))) (dg_tup (dgs_cons (dg_name 1 scrule_cases.nd) (dgs_cons (dg_name 2 scrule_cases.nd) dgs_nil))) (nx_tup (nx_cons (nx_name 1) (nx_cons (nx_name 2) nx_nil)))) (dss_one (ds_ret (de_comp2 [("ahead", 3), ("behind", 4)] [4] scrule_cases.nd (di_any (de_var 1)) (blkOk_by (by kernel_rfl)) (fun _ _ _ _ _ => (dg_name 3 scrule_cases.nd)) (fun _ _ _ _ _ => dts_nil) (fun _ _ _ _ _ => (di_any (de_var 2))) (fun _ _ _ _ _ => (dg_name 4 scrule_cases.nd)) (fun _ _ _ _ _ => dts_nil) (fun _ _ _ _ _ => (de_tup (da_cons (de_var 3) (da_cons (de_ixA hr (de_var 0) de_int) (da_cons (de_var 4) da_nil)))))))))
theorem scprice_table : FnScope ["book", "found", "rule", "case"] ["book"] (defScope sprice_table) := ⟨rfl, rfl, rfl, by decide +kernel, rfl, by decide +kernel, by decide +kernel⟩
theorem bdprice_table (T : Txt mg) (h_rule_cases : Has P w K mg base 2 "rule_cases" ["rule"] frule_cases) : Body P w K mg base 2 "price_table" sprice_table ["book", "found", "rule", "case"] [] gprice_table := fun f cdv A outer s H vs E hg hr => (dss_cons (ds_setM 1 scprice_table.nd dm_dt) (dss_cons (ds_for (di_any (de_var 0)) (dg_name 2 scprice_table.nd) (dss_one (ds_for (di_any (de_callH h_rule_cases hg (hr.mono (by decide)) (dr_d (de_var 2) dr_nil))) (dg_name 3 scprice_table.nd) (dss_one (ds_store 1 hr (de_var 3) (de_callB cb_min T.b_min (da_cons (de_ixA hr (de_var 2) de_int) (da_cons (de_getP 1 hr (da_cons (de_var 3) (da_cons (de_ixA hr (de_var 2) de_int) da_nil)) (m2_of rfl rfl rfl rfl)) da_nil))))) PassesOwn.never)) PassesOwn.never) (dss_one (ds_ret (de_var 1)))))
theorem schow_many : FnScope ["book"] ["book"] (defScope show_many) := ⟨rfl, rfl, rfl, by decide +kernel, rfl, by decide +kernel, by decide +kernel⟩
theorem bdhow_many (T : Txt mg) (h_need_book : Has P w K mg base 4 "need_book" ["thing"] fneed_book) (h_price_table : Has P w K mg base 3 "price_table" ["book"] fprice_table) : Body P w K mg base 4 "how_many" show_many ["book"] [] ghow_many := fun f cdv A outer s H vs E hg hr => (dss_cons (ds_expr (de_callH h_need_book hg (hr.mono (by decide)) (dr_d (de_var 0) dr_nil))) (dss_one (ds_ret (de_callB cb_len T.b_len (da_cons (de_callH h_price_table hg (hr.mono (by decide)) (dr_d (de_var 0) dr_nil)) da_nil)))))
theorem sctwo_tables : FnScope ["one", "other"] ["one", "other"] (defScope stwo_tables) := ⟨rfl, rfl, rfl, by decide +kernel, rfl, by decide +kernel, by decide +kernel⟩
theorem bdtwo_tables (T : Txt mg) (h_need_book : Has P w K mg base 4 "need_book" ["thing"] fneed_book) (h_price_table : Has P w K mg base 3 "price_table" ["book"] fprice_table) : Body P w K mg base 4 "two_tables" stwo_tables ["one", "other"] [] gtwo_tables := fun f cdv A outer s H vs E hg hr => (dss_cons (ds_expr (de_callH h_need_book hg (hr.mono (by decide)) (dr_d (de_var 0) dr_nil))) (dss_cons (ds_expr (de_callH h_need_book hg (hr.mono (by decide)) (dr_d (de_var 1) dr_nil))) (dss_one (ds_ret (de_tup (da_cons (de_callH h_price_table hg (hr.mono (by decide)) (dr_d (de_var 0) dr_nil)) (da_cons (de_callH h_price_table hg (hr.mono (by decide)) (dr_d (de_var 1) dr_nil)) da_nil)))))))
theorem scalike : FnScope ["one", "other", "mine", "others"] ["one", "other"] (defScope salike) := ⟨rfl, rfl, rfl, by decide +kernel, rfl, by decide +kernel, by decide +kernel⟩
theorem bdalike (T : Txt mg) (h_two_tables : Has P w K mg base 5 "two_tables" ["one", "other"] ftwo_tables) : Body P w K mg base 5 "alike" salike ["one", "other", "mine", "others"] [] galike := fun f cdv A outer s H vs E hg hr => (dss_cons (ds_asg (de_callH h_two_tables hg (hr.mono (by decide)) (dr_d (de_var 0) (dr_d (de_var 1) dr_nil))) (dg_tup (dgs_cons (dg_name 2 scalike.nd) (dgs_cons (dg_name 3 scalike.nd) dgs_nil))) (nx_tup (nx_cons (nx_name 2) (nx_cons (nx_name 3) nx_nil)))) (dss_one (ds_ret (de_cmp (od_eqA hr) (de_callB (cb_sortedDTS hr rfl) T.b_sorted (da_cons (de_var 2) da_nil)) (de_callB (cb_sortedDTS hr rfl) T.b_sorted (da_cons (de_var 3) da_nil))))))
theorem scsame : FnScope ["one", "other", "mine", "others"] ["one", "other"] (defScope ssame) := ⟨rfl, rfl, rfl, by decide +kernel, rfl, by decide +kernel, by decide +kernel⟩
theorem bdsame (T : Txt mg) (h_two_tables : Has P w K mg base 5 "two_tables" ["one", "other"] ftwo_tables) : Body P w K mg base 5 "same" ssame ["one", "other", "mine", "others"] [] gsame := fun f cdv A outer s H vs E hg hr => (dss_cons (ds_asg (de_callH h_two_tables hg (hr.mono (by decide)) (dr_d (de_var 0) (dr_d (de_var 1) dr_nil))) (dg_tup (dgs_cons (dg_name 2 scsame.nd) (dgs_cons (dg_name 3 scsame.nd) dgs_nil))) (nx_tup (nx_cons (nx_name 2) (nx_cons (nx_name 3) nx_nil)))) (dss_one (ds_ret (de_cmp (od_eqA hr) (de_var 2) (de_var 3)))))
theorem scis_within : FnScope ["one", "other", "mine", "others", "case"] ["one", "other"] (defScope sis_within) := ⟨rfl, rfl, rfl, by decide +kernel, rfl, by decide +kernel, by decide +kernel⟩
theorem bdis_within (T : Txt mg) (h_two_tables : Has P w K mg base 5 "two_tables" ["one", "other"] ftwo_tables) : Body P w K mg base 5 "is_within" sis_within ["one", "other", "mine", "others", "case"] [] gis_within := fun f cdv A outer s H vs E hg hr => (dss_cons (ds_asg (de_callH h_two_tables hg (hr.mono (by decide)) (dr_d (de_var 0) (dr_d (de_var 1) dr_nil))) (dg_tup (dgs_cons (dg_name 2 scis_within.nd) (dgs_cons (dg_name 3 scis_within.nd) dgs_nil))) (nx_tup (nx_cons (nx_name 2) (nx_cons (nx_name 3) nx_nil)))) (dss_one (ds_ret (de_callB cb_all T.b_all (da_cons (de_comp [("case", 4)] scis_within.nd (di_any (de_var 2)) (blkOk_by (by kernel_rfl)) (fun _ _ _ _ _ => (dg_name 4 scis_within.nd)) (fun _ _ _ _ _ => dts_nil) (fun _ _ _ _ _ => (de_cmp (od_inA hr) (de_var 4) (de_var 3)))) da_nil)))))
theorem scparting : FnScope ["one", "other", "apart", "mine", "others", "case"] ["one", "other"] (defScope sparting) := ⟨rfl, rfl, rfl, by decide +kernel, rfl, by decide +kernel, by decide +kernel⟩
theorem bdparting (T : Txt mg) (h_two_tables : Has P w K mg base 5 "two_tables" ["one", "other"] ftwo_tables) : Body P w K mg base 5 "parting" sparting ["one", "other", "apart", "mine", "others", "case"] [] gparting := fun f cdv A outer s H vs E hg hr => (dss_cons (ds_asg (de_callH h_two_tables hg (hr.mono (by decide)) (dr_d (de_var 0) (dr_d (de_var 1) dr_nil))) (dg_tup (dgs_cons (dg_name 3 scparting.nd) (dgs_cons (dg_name 4 scparting.nd) dgs_nil))) (nx_tup (nx_cons (nx_name 3) (nx_cons (nx_name 4) nx_nil)))) (dss_cons (ds_set 2 scparting.nd (de_bin od_add (de_comp [("case", 5)] scparting.nd (di_any (de_var 3)) (blkOk_by (by kernel_rfl)) (fun _ _ _ _ _ => (dg_name 5 scparting.nd)) (fun _ _ _ _ _ => (dts_one (dt_cmp (od_ninA hr) (de_var 5) (de_var 4)))) (fun _ _ _ _ _ => (de_tup (da_cons (de_var 5) (da_cons de_int da_nil))))) (de_comp [("case", 5)] scparting.nd (di_any (de_var 4)) (blkOk_by (by kernel_rfl)) (fun _ _ _ _ _ => (dg_name 5 scparting.nd)) (fun _ _ _ _ _ => (dts_one (dt_cmp (od_ninA hr) (de_var 5) (de_var 3)))) (fun _ _ _ _ _ => (de_tup (da_cons (de_var 5) (da_cons de_int da_nil))))))) (dss_one (ds_ret (de_if (dt_cmp (od_ne hr) (de_var 2) (de_lst da_nil)) (de_callB (cb_minW hr rfl) T.b_min (da_cons (de_var 2) da_nil)) de_non)))))
theorem scunlike_price : FnScope ["one", "other", "apart", "mine", "others", "case"] ["one", "other"] (defScope sunlike_price) := ⟨rfl, rfl, rfl, by decide +kernel, rfl, by decide +kernel, by decide +kernel⟩
theorem bdunlike_price (T : Txt mg) (h_two_tables : Has P w K mg base 5 "two_tables" ["one", "other"] ftwo_tables) : Body P w K mg base 5 "unlike_price" sunlike_price ["one", "other", "apart", "mine", "others", "case"] [] gunlike_price := fun f cdv A outer s H vs E hg hr => (dss_cons (ds_asg (de_callH h_two_tables hg (hr.mono (by decide)) (dr_d (de_var 0) (dr_d (de_var 1) dr_nil))) (dg_tup (dgs_cons (dg_name 3 scunlike_price.nd) (dgs_cons (dg_name 4 scunlike_price.nd) dgs_nil))) (nx_tup (nx_cons (nx_name 3) (nx_cons (nx_name 4) nx_nil)))) (dss_cons (ds_setLc 2 [("case", 5)] scunlike_price.nd (di_any (de_var 3)) (blkOk_by (by kernel_rfl)) (fun _ _ _ _ _ => (dg_name 5 scunlike_price.nd)) (fun _ _ _ _ _ => (dts_one (dt_w (dw_and (dt_cmp (od_inA hr) (de_var 5) (de_var 4)) (dw_and1 (dt_cmp (od_ne hr) (de_ixA hr (de_var 3) (de_var 5)) (de_ixA hr (de_var 4) (de_var 5)))))))) (fun _ _ _ _ _ => (de_var 5)) (sw_true rfl rfl rfl rfl)) (dss_one (ds_ret (de_if (dt_cmp (od_ne hr) (de_var 2) (de_lst da_nil)) (de_callB (cb_minW hr rfl) T.b_min (da_cons (de_var 2) da_nil)) de_non)))))
theorem scis_needless : FnScope ["book", "number", "rule", "others", "one", "case"] ["book", "number"] (defScope sis_needless) := ⟨rfl, rfl, rfl, by decide +kernel, rfl, by decide +kernel, by decide +kernel⟩
theorem bdis_needless (T : Txt mg) (h_rule_cases : Has P w K mg base 2 "rule_cases" ["rule"] frule_cases) (h_fits_case : Has P w K mg base 1 "fits_case" ["rule", "case"] ffits_case) : Body P w K mg base 2 "is_needless" sis_needless ["book", "number", "rule", "others", "one", "case"] [] gis_needless := fun f cdv A outer s H vs E hg hr => (dss_cons (ds_set 2 scis_needless.nd (de_ixA hr (de_var 0) (de_var 1))) (dss_cons (ds_set 3 scis_needless.nd (de_comp [("one", 4)] scis_needless.nd (di_any (de_bin od_add (de_sl (de_var 0) do_none (do_some (de_var 1))) (de_sl (de_var 0) (do_some (de_bin od_add (de_var 1) de_int)) do_none))) (blkOk_by (by kernel_rfl)) (fun _ _ _ _ _ => (dg_name 4 scis_needless.nd)) (fun _ _ _ _ _ => (dts_one (dt_w (dw_and (dt_cmp (od_eqA hr) (de_ixA hr (de_var 4) de_int) (de_ixA hr (de_var 2) de_int)) (dw_and1 (dt_cmp od_le (de_ixA hr (de_var 4) de_int) (de_ixA hr (de_var 2) de_int))))))) (fun _ _ _ _ _ => (de_var 4)))) (dss_cons (ds_if (dt_val (de_callB cb_any T.b_any (da_cons (de_comp [("one", 4)] scis_needless.nd (di_any (de_var 3)) (blkOk_by (by kernel_rfl)) (fun _ _ _ _ _ => (dg_name 4 scis_needless.nd)) (fun _ _ _ _ _ => dts_nil) (fun _ _ _ _ _ => (de_and (de_cmp (od_inA hr) (de_ixA hr (de_var 4) de_int) (de_tup (da_cons (de_ixA hr (de_var 2) de_int) (da_cons (de_con T.c_ANY_SIGN) da_nil)))) (de_one (de_cmp (od_inA hr) (de_ixA hr (de_var 4) de_int) (de_tup (da_cons (de_ixA hr (de_var 2) de_int) (da_cons (de_con T.c_ANY_SIGN) da_nil)))))))) da_nil))) (dss_one (ds_ret de_bl)) dss_nil) (dss_one (ds_ret (de_callB cb_all T.b_all (da_cons (de_comp [("case", 5)] scis_needless.nd (di_any (de_callH h_rule_cases hg (hr.mono (by decide)) (dr_d (de_var 2) dr_nil))) (blkOk_by (by kernel_rfl)) (fun _ _ _ _ _ => (dg_name 5 scis_needless.nd)) (fun _ _ _ _ _ => dts_nil) (fun _ _ _ _ _ => (de_callB cb_any T.b_any (da_cons (de_comp [("one", 4)] scis_needless.nd (di_any (de_var 3)) (blkOk_by (by kernel_rfl)) (fun _ _ _ _ _ => (dg_name 4 scis_needless.nd)) (fun _ _ _ _ _ => dts_nil) (fun _ _ _ _ _ => (de_callH h_fits_case hg (hr.mono (by decide)) (dr_d (de_var 4) (dr_d (de_var 5) dr_nil))))) da_nil)))) da_nil)))))))
theorem scneedless : FnScope ["book", "number"] ["book"] (defScope sneedless) := ⟨rfl, rfl, rfl, by decide +kernel, rfl, by decide +kernel, by decide +kernel⟩
theorem bdneedless (T : Txt mg) (h_need_book : Has P w K mg base 4 "need_book" ["thing"] fneed_book) (h_is_needless : Has P w K mg base 3 "is_needless" ["book", "number"] fis_needless) : Body P w K mg base 4 "needless" sneedless ["book", "number"] [] gneedless := fun f cdv A outer s H vs E hg hr => (dss_cons (ds_expr (de_callH h_need_book hg (hr.mono (by decide)) (dr_d (de_var 0) dr_nil))) (dss_one (ds_ret (de_callT cb_tuple T.b_tuple (da_cons (de_comp [("number", 1)] scneedless.nd (di_range1 T.b_range (da_cons (de_callB cb_len T.b_len (da_cons (de_var 0) da_nil)) da_nil)) (blkOk_by (by kernel_rfl)) (fun _ _ _ _ _ => (dg_name 1 scneedless.nd)) (fun _ _ _ _ _ => (dts_one (dt_val (de_callH h_is_needless hg (hr.mono (by decide)) (dr_d (de_var 0) (dr_d (de_var 1) dr_nil)))))) (fun _ _ _ _ _ => (de_var 1))) da_nil)))))
theorem sc_law_mixed : FnScope ["_law_number", "_law_k"] ["_law_number", "_law_k"] (defScope s_law_mixed) := ⟨rfl, rfl, rfl, by decide +kernel, rfl, by decide +kernel, by decide +kernel⟩
theorem bd_law_mixed (T : Txt mg) : Body P w K mg base 0 "_law_mixed" s_law_mixed ["_law_number", "_law_k"] [] g_law_mixed := fun f cdv A outer s H vs E hg hr => (dss_cons (ds_set 0 sc_law_mixed.nd (de_bin od_mod (de_bin od_mul (de_bin od_add (de_bin od_add (de_bin od_mod (de_var 0) de_int) (de_bin od_mul (de_bin od_mul de_int (de_var 1)) (de_var 1))) (de_bin od_mul de_int (de_var 1))) de_int) de_int)) (dss_one (ds_ret (de_bin od_mod (de_bin od_mul (de_var 0) (de_bin od_add de_int (de_bin od_mul de_int (de_var 1)))) de_int))))
theorem sc_law_stream : FnScope ["_law_cell", "_law_k"] ["_law_cell", "_law_k"] (defScope s_law_stream) := ⟨rfl, rfl, rfl, by decide +kernel, rfl, by decide +kernel, by decide +kernel⟩
theorem bd_law_stream (T : Txt mg) (h__law_mixed : Has P w K mg base 1 "_law_mixed" ["_law_number", "_law_k"] f_law_mixed) : Body P w K mg base 1 "_law_stream" s_law_stream ["_law_cell", "_law_k"] [] g_law_stream := fun f cdv A outer s H vs E hg hr => (dss_one (ds_retM (dm_lst (da_cons (de_if (dt_cmp od_ge (de_var 0) (de_bin od_pow de_int de_int)) (de_var 0) de_int) (da_cons de_int (da_cons (de_callH h__law_mixed hg (hr.mono (by decide)) (dr_d (de_var 0) (dr_d (de_var 1) dr_nil))) da_nil))))))
theorem sc_law_take : FnScope ["_law_stream_here", "_law_many", "_law_number"] ["_law_stream_here", "_law_many"] (defScope s_law_take) := ⟨rfl, rfl, rfl, by decide +kernel, rfl, by decide +kernel, by decide +kernel⟩
theorem bd_law_take (T : Txt mg) (h__law_mixed : Has P w K mg base 1 "_law_mixed" ["_law_number", "_law_k"] f_law_mixed) : Body P w K mg base 1 "_law_take" s_law_take ["_law_stream_here", "_law_many", "_law_number"] [0] g_law_take := fun f cdv A outer s H vs E hg hr => (dss_cons (ds_store 0 hr de_int (de_bin od_add (de_ixPA 0 hr de_int) de_int)) (dss_cons (ds_if (dt_cmp (od_eqA hr) (de_ixPA 0 hr de_int) de_int) (dss_one (ds_ret (de_bin od_mod (de_callH h__law_mixed hg (hr.mono (by decide)) (dr_d (de_callH h__law_mixed hg (hr.mono (by decide)) (dr_d (de_ixPA 0 hr de_int) (dr_d (de_ixPA 0 hr de_int) dr_nil))) (dr_d de_int dr_nil))) (de_var 1)))) dss_nil) (dss_cons (ds_set 2 sc_law_take.nd (de_bin od_mod (de_ixPA 0 hr de_int) (de_var 1))) (dss_cons (ds_store 0 hr de_int (de_bin od_fdv (de_ixPA 0 hr de_int) (de_var 1))) (dss_one (ds_ret (de_var 2)))))))
theorem sc_law_signs : FnScope ["_law_stream_here", "_law_many", "_law_start", "_law_step", "_law_k"] ["_law_stream_here", "_law_many"] (defScope s_law_signs) := ⟨rfl, rfl, rfl, by decide +kernel, rfl, by decide +kernel, by decide +kernel⟩
theorem bd_law_signs (T : Txt mg) (h__law_take : Has P w K mg base 2 "_law_take" ["_law_stream_here", "_law_many"] f_law_take) : Body P w K mg base 2 "_law_signs" s_law_signs ["_law_stream_here", "_law_many", "_law_start", "_law_step", "_law_k"] [0] g_law_signs := fun f cdv A outer s H vs E hg hr => (dss_cons (ds_asg (de_tup (da_cons (de_callH h__law_take hg (hr.mono (by decide)) (dr_b 0 (dr_d de_int dr_nil))) (da_cons (de_bin od_add de_int (de_bin od_mul de_int (de_callH h__law_take hg (hr.mono (by decide)) (dr_b 0 (dr_d de_int dr_nil))))) da_nil))) (dg_tup (dgs_cons (dg_name 2 sc_law_signs.nd) (dgs_cons (dg_name 3 sc_law_signs.nd) dgs_nil))) (nx_tup (nx_cons (nx_name 2) (nx_cons (nx_name 3) nx_nil)))) (dss_one (ds_ret (de_comp [("_law_k", 4)] sc_law_signs.nd (di_range1 T.b_range (da_cons (de_var 1) da_nil)) (blkOk_by (by kernel_rfl)) (fun _ _ _ _ _ => (dg_name 4 sc_law_signs.nd)) (fun _ _ _ _ _ => dts_nil) (fun _ _ _ _ _ => (de_ixA hr de_str (de_bin od_mod (de_bin od_add (de_var 2) (de_bin od_mul (de_var 3) (de_var 4))) de_int)))))))
theorem sc_law_side : FnScope ["_law_stream_here", "_law_signs_here", "_law_end"] ["_law_stream_here", "_law_signs_here", "_law_end"] (defScope s_law_side) := ⟨rfl, rfl, rfl, by decide +kernel, rfl, by decide +kernel, by decide +kernel⟩
theorem bd_law_side (T : Txt mg) (h__law_take : Has P w K mg base 2 "_law_take" ["_law_stream_here", "_law_many"] f_law_take) : Body P w K mg base 2 "_law_side" s_law_side ["_law_stream_here", "_law_signs_here", "_law_end"] [0] g_law_side := fun f cdv A outer s H vs E hg hr => (dss_one (ds_ret (de_ixA hr (de_bin od_add (de_var 1) (de_lst (da_cons (de_var 2) (da_cons de_str da_nil)))) (de_callH h__law_take hg (hr.mono (by decide)) (dr_b 0 (dr_d (de_bin od_add (de_callB cb_len T.b_len (da_cons (de_var 1) da_nil)) de_int) dr_nil))))))
theorem sc_law_rule : FnScope ["_law_stream_here", "_law_signs_here", "_law_ahead", "_law_behind", "_law_letter", "_law_near"] ["_law_stream_here", "_law_signs_here"] (defScope s_law_rule) := ⟨rfl, rfl, rfl, by decide +kernel, rfl, by decide +kernel, by decide +kernel⟩
theorem bd_law_rule (T : Txt mg) (h__law_side : Has P w K mg base 3 "_law_side" ["_law_stream_here", "_law_signs_here", "_law_end"] f_law_side) (h__law_take : Has P w K mg base 2 "_law_take" ["_law_stream_here", "_law_many"] f_law_take) : Body P w K mg base 3 "_law_rule" s_law_rule ["_law_stream_here", "_law_signs_here", "_law_ahead", "_law_behind", "_law_letter", "_law_near"] [0] g_law_rule := fun f cdv A outer s H vs E hg hr => (dss_cons (ds_par2 2 3 sc_law_rule.nd (da_cons (de_callH h__law_side hg (hr.mono (by decide)) (dr_b 0 (dr_d (de_var 1) (dr_d de_str dr_nil)))) (da_cons (de_callH h__law_side hg (hr.mono (by decide)) (dr_b 0 (dr_d (de_var 1) (dr_d de_str dr_nil)))) da_nil))) (dss_cons (ds_par2 4 5 sc_law_rule.nd (da_cons (de_ixA hr (de_var 1) (de_callH h__law_take hg (hr.mono (by decide)) (dr_b 0 (dr_d (de_callB cb_len T.b_len (da_cons (de_var 1) da_nil)) dr_nil)))) (da_cons (de_callH h__law_take hg (hr.mono (by decide)) (dr_b 0 (dr_d de_int dr_nil))) da_nil))) (dss_one (ds_ret (de_tup (da_cons (de_var 2) (da_cons (de_var 4) (da_cons (de_var 3) (da_cons (de_if (dt_cmp (od_eqA hr) (de_var 5) de_int) (de_callH h__law_take hg (hr.mono (by decide)) (dr_b 0 (dr_d de_int dr_nil))) (de_var 5)) da_nil)))))))))
theorem sc_law_rules : FnScope ["_law_stream_here", "_law_signs_here", "_law_many", "_law_found", "_law_k", "_law_rule_here", "_law_elder"] ["_law_stream_here", "_law_signs_here", "_law_many"] (defScope s_law_rules) := ⟨rfl, rfl, rfl, by decide +kernel, rfl, by decide +kernel, by decide +kernel⟩
theorem bd_law_rules (T : Txt mg) (h__law_rule : Has P w K mg base 4 "_law_rule" ["_law_stream_here", "_law_signs_here"] f_law_rule) (h__law_take : Has P w K mg base 2 "_law_take" ["_law_stream_here", "_law_many"] f_law_take) : Body P w K mg base 4 "_law_rules" s_law_rules ["_law_stream_here", "_law_signs_here", "_law_many", "_law_found", "_law_k", "_law_rule_here", "_law_elder"] [0] g_law_rules := fun f cdv A outer s H vs E hg hr => (dss_cons (ds_setM 3 sc_law_rules.nd (dm_lst da_nil)) (dss_cons (ds_for (di_range1 T.b_range (da_cons (de_var 2) da_nil)) (dg_name 4 sc_law_rules.nd) (dss_cons (ds_set 5 sc_law_rules.nd (de_callH h__law_rule hg (hr.mono (by decide)) (dr_b 0 (dr_d (de_var 1) dr_nil)))) (dss_cons (ds_if (dt_w (dw_and (dt_neP 3 hr (de_lst da_nil)) (dw_and1 (dt_cmp (od_eqA hr) (de_callH h__law_take hg (hr.mono (by decide)) (dr_b 0 (dr_d de_int dr_nil))) de_int)))) (dss_cons (ds_set 6 sc_law_rules.nd (de_ixPA 3 hr (de_callH h__law_take hg (hr.mono (by decide)) (dr_b 0 (dr_d (de_lenP 3 T.b_len) dr_nil))))) (dss_one (ds_set 5 sc_law_rules.nd (de_if (dt_cmp (od_eqA hr) (de_callH h__law_take hg (hr.mono (by decide)) (dr_b 0 (dr_d de_int dr_nil))) de_int) (de_var 6) (de_bin od_add (de_sl (de_var 6) do_none (do_some de_int)) (de_sl (de_var 5) (do_some de_int) do_none)))))) dss_nil) (dss_one (ds_append 3 (de_var 5))))) PassesOwn.never) (dss_one (ds_ret (de_callT cb_tuple T.b_tuple (da_cons (de_var 3) da_nil))))))
theorem sc_law_star : FnScope ["_law_stream_here", "_law_signs_here", "_law_end", "_law_far", "_law_letter", "_law_cost", "_law_at", "_law_left", "_law_found", "_law_sign"] ["_law_stream_here", "_law_signs_here"] (defScope s_law_star) := ⟨rfl, rfl, rfl, by decide +kernel, rfl, by decide +kernel, by decide +kernel⟩
theorem bd_law_star (T : Txt mg) (h__law_take : Has P w K mg base 2 "_law_take" ["_law_stream_here", "_law_many"] f_law_take) : Body P w K mg base 2 "_law_star" s_law_star ["_law_stream_here", "_law_signs_here", "_law_end", "_law_far", "_law_letter", "_law_cost", "_law_at", "_law_left", "_law_found", "_law_sign"] [0] g_law_star := fun f cdv A outer s H vs E hg hr => (dss_cons (ds_par3 4 5 6 sc_law_star.nd (da_cons (de_ixA hr (de_var 1) (de_callH h__law_take hg (hr.mono (by decide)) (dr_b 0 (dr_d (de_callB cb_len T.b_len (da_cons (de_var 1) da_nil)) dr_nil)))) (da_cons (de_callH h__law_take hg (hr.mono (by decide)) (dr_b 0 (dr_d de_int dr_nil))) (da_cons (de_bin od_mul de_int (de_callH h__law_take hg (hr.mono (by decide)) (dr_b 0 (dr_d de_int dr_nil)))) da_nil)))) (dss_cons (ds_set 2 sc_law_star.nd (de_ixA hr de_str (de_bin od_fdv (de_var 6) de_int))) (dss_cons (ds_set 3 sc_law_star.nd (de_ixA hr (de_bin od_add (de_var 1) (de_lst (da_cons (de_ixA hr de_str (de_bin od_fdv (de_var 6) de_int)) da_nil))) (de_callH h__law_take hg (hr.mono (by decide)) (dr_b 0 (dr_d (de_bin od_add (de_callB cb_len T.b_len (da_cons (de_var 1) da_nil)) de_int) dr_nil))))) (dss_cons (ds_parMM 7 8 sc_law_star.nd (dm_listX (de_bin od_add (de_var 2) de_str) T.b_list) (dm_lst da_nil)) (dss_cons (ds_while 1000 (dt_neP 7 hr (de_lst da_nil)) (dss_cons (ds_set 9 sc_law_star.nd (de_popA 7 (de_callH h__law_take hg (hr.mono (by decide)) (dr_b 0 (dr_d (de_lenP 7 T.b_len) dr_nil))))) (dss_one (ds_append 8 (de_if (dt_cmp (od_eqA hr) (de_var 6) de_int) (de_tup (da_cons (de_var 9) (da_cons (de_var 4) (da_cons (de_var 3) (da_cons (de_var 5) da_nil))))) (de_tup (da_cons (de_var 3) (da_cons (de_var 4) (da_cons (de_var 9) (da_cons (de_var 5) da_nil))))))))) PassesOwn.never) (dss_one (ds_ret (de_tup (da_cons (de_if (dt_cmp (od_eqA hr) (de_var 6) de_int) (de_tup (da_cons de_str (da_cons (de_var 4) (da_cons (de_var 3) (da_cons (de_var 5) da_nil))))) (de_tup (da_cons (de_var 3) (da_cons (de_var 4) (da_cons de_str (da_cons (de_var 5) da_nil)))))) (da_cons (de_callT cb_tuple T.b_tuple (da_cons (de_var 8) da_nil)) da_nil))))))))))
theorem sc_law_left_out_right : FnScope ["_law_wide", "_law_rest", "_law_part", "_law_told", "_law_truths", "_law_trio", "_law_cost"] ["_law_wide", "_law_rest", "_law_part"] (defScope s_law_left_out_right) := ⟨rfl, rfl, rfl, by decide +kernel, rfl, by decide +kernel, by decide +kernel⟩
theorem bd_law_left_out_right (T : Txt mg) (h_price : Has P w K mg base 5 "price" ["book", "case"] fprice) (h_unlike_price : Has P w K mg base 6 "unlike_price" ["one", "other"] funlike_price) (h_parting : Has P w K mg base 6 "parting" ["one", "other"] fparting) (h_is_within : Has P w K mg base 6 "is_within" ["one", "other"] fis_within) (h_same : Has P w K mg base 6 "same" ["one", "other"] fsame) (h_alike : Has P w K mg base 6 "alike" ["one", "other"] falike) : Body P w K mg base 6 "_law_left_out_right" s_law_left_out_right ["_law_wide", "_law_rest", "_law_part", "_law_told", "_law_truths", "_law_trio", "_law_cost"] [] g_law_left_out_right := fun f cdv A outer s H vs E hg hr => (dss_cons (ds_par2 5 6 sc_law_left_out_right.nd (da_cons (de_sl (de_var 2) do_none (do_some de_int)) (da_cons (de_callH h_price hg (hr.mono (by decide)) (dr_d (de_var 1) (dr_d (de_sl (de_var 2) do_none (do_some de_int)) dr_nil))) da_nil))) (dss_cons (ds_set 3 sc_law_left_out_right.nd (de_lst (da_cons (de_callH h_parting hg (hr.mono (by decide)) (dr_d (de_var 0) (dr_d (de_var 1) dr_nil))) (da_cons (de_callH h_parting hg (hr.mono (by decide)) (dr_d (de_var 1) (dr_d (de_var 0) dr_nil))) (da_cons (de_callH h_unlike_price hg (hr.mono (by decide)) (dr_d (de_var 0) (dr_d (de_var 1) dr_nil))) da_nil))))) (dss_cons (ds_set 4 sc_law_left_out_right.nd (de_lst (da_cons (de_callH h_alike hg (hr.mono (by decide)) (dr_d (de_var 0) (dr_d (de_var 1) dr_nil))) (da_cons (de_callH h_same hg (hr.mono (by decide)) (dr_d (de_var 0) (dr_d (de_var 1) dr_nil))) (da_cons (de_callH h_is_within hg (hr.mono (by decide)) (dr_d (de_var 0) (dr_d (de_var 1) dr_nil))) (da_cons (de_callH h_is_within hg (hr.mono (by decide)) (dr_d (de_var 1) (dr_d (de_var 0) dr_nil))) da_nil)))))) (dss_cons (ds_if (dt_cmp (od_ne hr) (de_callH h_price hg (hr.mono (by decide)) (dr_d (de_var 0) (dr_d (de_var 5) dr_nil))) (de_if (dt_cmp od_is (de_var 6) de_non) (de_ixA hr (de_var 2) de_int) (de_callB cb_min T.b_min (da_cons (de_var 6) (da_cons (de_ixA hr (de_var 2) de_int) da_nil))))) (dss_one (ds_ret de_bl)) dss_nil) (dss_cons (ds_if (dt_cmp od_is (de_var 6) de_non) (dss_one (ds_ret (de_cmp (od_eqA hr) (de_callB (cb_repr hg hr) T.b_repr (da_cons (de_bin od_add (de_var 3) (de_var 4)) da_nil)) (de_callB (cb_repr hg hr) T.b_repr (da_cons (de_lst (da_cons (de_tup (da_cons (de_var 5) (da_cons de_int da_nil))) (da_cons (de_tup (da_cons (de_var 5) (da_cons de_int da_nil))) (da_cons de_non (da_cons de_bl (da_cons de_bl (da_cons de_bl (da_cons de_bl da_nil)))))))) da_nil))))) dss_nil) (dss_cons (ds_if (dt_cmp od_gt (de_var 6) (de_ixA hr (de_var 2) de_int)) (dss_one (ds_ret (de_cmp (od_eqA hr) (de_callB (cb_repr hg hr) T.b_repr (da_cons (de_bin od_add (de_var 3) (de_var 4)) da_nil)) (de_callB (cb_repr hg hr) T.b_repr (da_cons (de_lst (da_cons de_non (da_cons de_non (da_cons (de_var 5) (da_cons de_bl (da_cons de_bl (da_cons de_bl (da_cons de_bl da_nil)))))))) da_nil))))) dss_nil) (dss_one (ds_ret (de_cmp (od_eqA hr) (de_callB (cb_repr hg hr) T.b_repr (da_cons (de_bin od_add (de_var 3) (de_var 4)) da_nil)) (de_callB (cb_repr hg hr) T.b_repr (da_cons (de_lst (da_cons de_non (da_cons de_non (da_cons de_non (da_cons de_bl (da_cons de_bl (da_cons de_bl (da_cons de_bl da_nil)))))))) da_nil)))))))))))
theorem sclaw : FnScope ["_law_script", "_law_k", "_law_cell", "_law_stream_here", "_law_signs_here", "_law_rules_here", "_law_short", "_law_wide", "_law_fewer", "_law_star_here", "_law_parts", "_law_at", "_law_out", "_law_rest", "_law_part"] ["_law_script"] (defScope slaw) := ⟨rfl, rfl, rfl, by decide +kernel, rfl, by decide +kernel, by decide +kernel⟩
theorem bdlaw (T : Txt mg) (h__law_stream : Has P w K mg base 2 "_law_stream" ["_law_cell", "_law_k"] f_law_stream) (h__law_signs : Has P w K mg base 3 "_law_signs" ["_law_stream_here", "_law_many"] f_law_signs) (h__law_take : Has P w K mg base 2 "_law_take" ["_law_stream_here", "_law_many"] f_law_take) (h__law_rules : Has P w K mg base 5 "_law_rules" ["_law_stream_here", "_law_signs_here", "_law_many"] f_law_rules) (h__law_star : Has P w K mg base 3 "_law_star" ["_law_stream_here", "_law_signs_here"] f_law_star) (h_same : Has P w K mg base 6 "same" ["one", "other"] fsame) (h_how_many : Has P w K mg base 5 "how_many" ["book"] fhow_many) (h__law_left_out_right : Has P w K mg base 7 "_law_left_out_right" ["_law_wide", "_law_rest", "_law_part"] f_law_left_out_right) (h_needless : Has P w K mg base 5 "needless" ["book"] fneedless) (h_price : Has P w K mg base 5 "price" ["book", "case"] fprice) : Body P w K mg base 7 "law" slaw ["_law_script", "_law_k", "_law_cell", "_law_stream_here", "_law_signs_here", "_law_rules_here", "_law_short", "_law_wide", "_law_fewer", "_law_star_here", "_law_parts", "_law_at", "_law_out", "_law_rest", "_law_part"] [] glaw := fun f cdv A outer s H vs E hg hr => (dss_cons (ds_for (di_enum T.b_enumerate (da_cons (de_sl (de_bin od_add (de_var 0) (de_lst (da_cons de_int da_nil))) do_none (do_some de_int)) da_nil)) (dg_tup (dgs_cons (dg_name 1 sclaw.nd) (dgs_cons (dg_name 2 sclaw.nd) dgs_nil))) (dss_cons (ds_setM 3 sclaw.nd (dm_callH h__law_stream hg (hr.mono (by decide)) (dr_d (de_var 2) (dr_d (de_var 1) dr_nil)))) (dss_cons (ds_set 4 sclaw.nd (de_callH h__law_signs hg (hr.mono (by decide)) (dr_b 3 (dr_d (de_bin od_add de_int (de_callH h__law_take hg (hr.mono (by decide)) (dr_b 3 (dr_d de_int dr_nil)))) dr_nil)))) (dss_cons (ds_set 5 sclaw.nd (de_callH h__law_rules hg (hr.mono (by decide)) (dr_b 3 (dr_d (de_var 4) (dr_d (de_callH h__law_take hg (hr.mono (by decide)) (dr_b 3 (dr_d de_int dr_nil))) dr_nil))))) (dss_cons (ds_asg (de_callH h__law_star hg (hr.mono (by decide)) (dr_b 3 (dr_d (de_var 4) dr_nil))) (dg_tup (dgs_cons (dg_name 9 sclaw.nd) (dgs_cons (dg_name 10 sclaw.nd) dgs_nil))) (nx_tup (nx_cons (nx_name 9) (nx_cons (nx_name 10) nx_nil)))) (dss_cons (ds_par2 11 12 sclaw.nd (da_cons (de_callH h__law_take hg (hr.mono (by decide)) (dr_b 3 (dr_d (de_bin od_add (de_callB cb_len T.b_len (da_cons (de_var 5) da_nil)) de_int) dr_nil))) (da_cons (de_callH h__law_take hg (hr.mono (by decide)) (dr_b 3 (dr_d de_int dr_nil))) da_nil))) (dss_cons (ds_set 6 sclaw.nd (de_bin od_add (de_bin od_add (de_sl (de_var 5) do_none (do_some (de_var 11))) (de_tup (da_cons (de_var 9) da_nil))) (de_sl (de_var 5) (do_some (de_var 11)) do_none))) (dss_cons (ds_set 7 sclaw.nd (de_bin od_add (de_bin od_add (de_sl (de_var 5) do_none (do_some (de_var 11))) (de_var 10)) (de_sl (de_var 5) (do_some (de_var 11)) do_none))) (dss_cons (ds_if (dt_w (dw_or (dt_cmp od_isn (de_callH h_same hg (hr.mono (by decide)) (dr_d (de_var 6) (dr_d (de_var 7) dr_nil))) de_bl) (dw_or1 (dt_cmp (od_ne hr) (de_callH h_how_many hg (hr.mono (by decide)) (dr_d (de_var 6) dr_nil)) (de_callH h_how_many hg (hr.mono (by decide)) (dr_d (de_var 7) dr_nil)))))) (dss_one (ds_ret de_bl)) dss_nil) (dss_cons (ds_par2 13 14 sclaw.nd (da_cons (de_bin od_add (de_sl (de_var 7) do_none (do_some (de_bin od_add (de_var 11) (de_var 12)))) (de_sl (de_var 7) (do_some (de_bin od_add (de_bin od_add (de_var 11) (de_var 12)) de_int)) do_none)) (da_cons (de_ixA hr (de_var 10) (de_var 12)) da_nil))) (dss_cons (ds_if (dt_not (dt_val (de_callH h__law_left_out_right hg (hr.mono (by decide)) (dr_d (de_var 7) (dr_d (de_var 13) (dr_d (de_var 14) dr_nil)))))) (dss_one (ds_ret de_bl)) dss_nil) (dss_cons (ds_if (dt_cmp (od_ne hr) (de_cmp (od_inA hr) (de_bin od_add (de_var 11) (de_var 12)) (de_callH h_needless hg (hr.mono (by decide)) (dr_d (de_var 7) dr_nil))) (de_callH h_same hg (hr.mono (by decide)) (dr_d (de_var 7) (dr_d (de_var 13) dr_nil)))) (dss_one (ds_ret de_bl)) dss_nil) (dss_cons (ds_set 8 sclaw.nd (de_bin od_sub (de_callH h_how_many hg (hr.mono (by decide)) (dr_d (de_var 7) dr_nil)) (de_callT cb_intB T.b_int (da_cons (de_cmp od_is (de_callH h_price hg (hr.mono (by decide)) (dr_d (de_var 13) (dr_d (de_sl (de_var 14) do_none (do_some de_int)) dr_nil))) de_non) da_nil)))) (dss_one (ds_if (dt_w (dw_or (dt_cmp (od_ne hr) (de_callH h_how_many hg (hr.mono (by decide)) (dr_d (de_var 13) dr_nil)) (de_var 8)) (dw_or1 (dt_cmp od_isn (de_callH h_same hg (hr.mono (by decide)) (dr_d (de_bin od_add (de_var 13) (de_tup (da_cons (de_var 9) da_nil))) (dr_d (de_bin od_add (de_var 6) (de_var 10)) dr_nil))) de_bl)))) (dss_one (ds_ret de_bl)) dss_nil)))))))))))))) PassesOwn.never) (dss_one (ds_ret de_bl)))
end
section
variable {P : Program} {w : World} {K : PySem.W.Frag} {mg : Str → Option Value} {base : Heap}
theorem all_ok (T : Txt mg) (Fis_whole : FunDAt K mg "is_whole" sis_whole [("least", flatOf (.int 0)), ("most", flatOf (.int 120))]) (Fis_letter : FunAt K mg "is_letter" sis_letter) (Fis_side : FunAt K mg "is_side" sis_side) (Frule_looks : FunAt K mg "rule_looks" srule_looks) (Fneed_book : FunAt K mg "need_book" sneed_book) (Fneed_case : FunAt K mg "need_case" sneed_case) (Ffits_case : FunAt K mg "fits_case" sfits_case) (Fprice_there : FunAt K mg "price_there" sprice_there) (Fprice : FunAt K mg "price" sprice) (Fsigns_for : FunAt K mg "signs_for" ssigns_for) (Frule_cases : FunAt K mg "rule_cases" srule_cases) (Fprice_table : FunAt K mg "price_table" sprice_table) (Fhow_many : FunAt K mg "how_many" show_many) (Ftwo_tables : FunAt K mg "two_tables" stwo_tables) (Falike : FunAt K mg "alike" salike) (Fsame : FunAt K mg "same" ssame) (Fis_within : FunAt K mg "is_within" sis_within) (Fparting : FunAt K mg "parting" sparting) (Funlike_price : FunAt K mg "unlike_price" sunlike_price) (Fis_needless : FunAt K mg "is_needless" sis_needless) (Fneedless : FunAt K mg "needless" sneedless) (F_law_mixed : FunAt K mg "_law_mixed" s_law_mixed) (F_law_stream : FunAt K mg "_law_stream" s_law_stream) (F_law_take : FunAt K mg "_law_take" s_law_take) (F_law_signs : FunAt K mg "_law_signs" s_law_signs) (F_law_side : FunAt K mg "_law_side" s_law_side) (F_law_rule : FunAt K mg "_law_rule" s_law_rule) (F_law_rules : FunAt K mg "_law_rules" s_law_rules) (F_law_star : FunAt K mg "_law_star" s_law_star) (F_law_left_out_right : FunAt K mg "_law_left_out_right" s_law_left_out_right) : Body P w K mg base 7 "law" slaw ["_law_script", "_law_k", "_law_cell", "_law_stream_here", "_law_signs_here", "_law_rules_here", "_law_short", "_law_wide", "_law_fewer", "_law_star_here", "_law_parts", "_law_at", "_law_out", "_law_rest", "_law_part"] [] glaw := by
  have B_is_whole := bdis_whole (P := P) (w := w) (K := K) (base := base) T 
  have k_is_whole_1_most : HasK P w K mg base 1 "is_whole" ["thing", "least", "most"] fis_whole 1 ["most"] [.inl 0, .inr 0, .inl 1] [.int 0] := hasD_of (ms := [("least", .int 0)]) Fis_whole scis_whole B_is_whole (by simp) (fun q hq => by simp at hq; first | (simp [hq]; done) | (rcases hq with rfl | rfl <;> simp)) rfl rfl fun D doc pm an cdv ct us ws mv l1 l2 l3 => match us, ws, mv, l1, l2, l3 with | [_], [_], [_], _, _, _ => ⟨_, _, _, _, _, _, rfl, rfl, rfl⟩
  have B_is_letter := bdis_letter (P := P) (w := w) (K := K) (base := base) T 
  have h_is_letter : Has P w K mg base 1 "is_letter" ["thing"] fis_letter := has_of Fis_letter scis_letter B_is_letter fun _ _ _ _ _ _ us hl => match us, hl with | [_], _ => rfl
  have B_is_side := bdis_side (P := P) (w := w) (K := K) (base := base) T h_is_letter
  have h_is_side : Has P w K mg base 2 "is_side" ["thing", "end"] fis_side := has_of Fis_side scis_side B_is_side fun _ _ _ _ _ _ us hl => match us, hl with | [_, _], _ => rfl
  have B_rule_looks := bdrule_looks (P := P) (w := w) (K := K) (base := base) T h_is_side h_is_letter k_is_whole_1_most
  have h_rule_looks : Has P w K mg base 3 "rule_looks" ["thing"] frule_looks := has_of Frule_looks scrule_looks B_rule_looks fun _ _ _ _ _ _ us hl => match us, hl with | [_], _ => rfl
  have B_need_book := bdneed_book (P := P) (w := w) (K := K) (base := base) T h_rule_looks
  have h_need_book : Has P w K mg base 4 "need_book" ["thing"] fneed_book := has_of Fneed_book scneed_book B_need_book fun _ _ _ _ _ _ us hl => match us, hl with | [_], _ => rfl
  have B_need_case := bdneed_case (P := P) (w := w) (K := K) (base := base) T h_is_side h_is_letter
  have h_need_case : Has P w K mg base 3 "need_case" ["thing"] fneed_case := has_of Fneed_case scneed_case B_need_case fun _ _ _ _ _ _ us hl => match us, hl with | [_], _ => rfl
  have B_fits_case := bdfits_case (P := P) (w := w) (K := K) (base := base) T 
  have h_fits_case : Has P w K mg base 1 "fits_case" ["rule", "case"] ffits_case := has_of Ffits_case scfits_case B_fits_case fun _ _ _ _ _ _ us hl => match us, hl with | [_, _], _ => rfl
  have B_price_there := bdprice_there (P := P) (w := w) (K := K) (base := base) T h_fits_case
  have h_price_there : Has P w K mg base 2 "price_there" ["book", "case"] fprice_there := has_of Fprice_there scprice_there B_price_there fun _ _ _ _ _ _ us hl => match us, hl with | [_, _], _ => rfl
  have B_price := bdprice (P := P) (w := w) (K := K) (base := base) T h_need_book h_need_case h_price_there
  have h_price : Has P w K mg base 5 "price" ["book", "case"] fprice := has_of Fprice scprice B_price fun _ _ _ _ _ _ us hl => match us, hl with | [_, _], _ => rfl
  have B_signs_for := bdsigns_for (P := P) (w := w) (K := K) (base := base) T 
  have h_signs_for : Has P w K mg base 1 "signs_for" ["side", "end"] fsigns_for := has_of Fsigns_for scsigns_for B_signs_for fun _ _ _ _ _ _ us hl => match us, hl with | [_, _], _ => rfl
  have B_rule_cases := bdrule_cases (P := P) (w := w) (K := K) (base := base) T h_signs_for
  have h_rule_cases : Has P w K mg base 2 "rule_cases" ["rule"] frule_cases := has_of Frule_cases scrule_cases B_rule_cases fun _ _ _ _ _ _ us hl => match us, hl with | [_], _ => rfl
  have B_price_table := bdprice_table (P := P) (w := w) (K := K) (base := base) T h_rule_cases
  have h_price_table : Has P w K mg base 3 "price_table" ["book"] fprice_table := has_of Fprice_table scprice_table B_price_table fun _ _ _ _ _ _ us hl => match us, hl with | [_], _ => rfl
  have B_how_many := bdhow_many (P := P) (w := w) (K := K) (base := base) T h_need_book h_price_table
  have h_how_many : Has P w K mg base 5 "how_many" ["book"] fhow_many := has_of Fhow_many schow_many B_how_many fun _ _ _ _ _ _ us hl => match us, hl with | [_], _ => rfl
  have B_two_tables := bdtwo_tables (P := P) (w := w) (K := K) (base := base) T h_need_book h_price_table
  have h_two_tables : Has P w K mg base 5 "two_tables" ["one", "other"] ftwo_tables := has_of Ftwo_tables sctwo_tables B_two_tables fun _ _ _ _ _ _ us hl => match us, hl with | [_, _], _ => rfl
  have B_alike := bdalike (P := P) (w := w) (K := K) (base := base) T h_two_tables
  have h_alike : Has P w K mg base 6 "alike" ["one", "other"] falike := has_of Falike scalike B_alike fun _ _ _ _ _ _ us hl => match us, hl with | [_, _], _ => rfl
  have B_same := bdsame (P := P) (w := w) (K := K) (base := base) T h_two_tables
  have h_same : Has P w K mg base 6 "same" ["one", "other"] fsame := has_of Fsame scsame B_same fun _ _ _ _ _ _ us hl => match us, hl with | [_, _], _ => rfl
  have B_is_within := bdis_within (P := P) (w := w) (K := K) (base := base) T h_two_tables
  have h_is_within : Has P w K mg base 6 "is_within" ["one", "other"] fis_within := has_of Fis_within scis_within B_is_within fun _ _ _ _ _ _ us hl => match us, hl with | [_, _], _ => rfl
  have B_parting := bdparting (P := P) (w := w) (K := K) (base := base) T h_two_tables
  have h_parting : Has P w K mg base 6 "parting" ["one", "other"] fparting := has_of Fparting scparting B_parting fun _ _ _ _ _ _ us hl => match us, hl with | [_, _], _ => rfl
  have B_unlike_price := bdunlike_price (P := P) (w := w) (K := K) (base := base) T h_two_tables
  have h_unlike_price : Has P w K mg base 6 "unlike_price" ["one", "other"] funlike_price := has_of Funlike_price scunlike_price B_unlike_price fun _ _ _ _ _ _ us hl => match us, hl with | [_, _], _ => rfl
  have B_is_needless := bdis_needless (P := P) (w := w) (K := K) (base := base) T h_rule_cases h_fits_case
  have h_is_needless : Has P w K mg base 3 "is_needless" ["book", "number"] fis_needless := has_of Fis_needless scis_needless B_is_needless fun _ _ _ _ _ _ us hl => match us, hl with | [_, _], _ => rfl
  have B_needless := bdneedless (P := P) (w := w) (K := K) (base := base) T h_need_book h_is_needless
  have h_needless : Has P w K mg base 5 "needless" ["book"] fneedless := has_of Fneedless scneedless B_needless fun _ _ _ _ _ _ us hl => match us, hl with | [_], _ => rfl
  have B__law_mixed := bd_law_mixed (P := P) (w := w) (K := K) (base := base) T 
  have h__law_mixed : Has P w K mg base 1 "_law_mixed" ["_law_number", "_law_k"] f_law_mixed := has_of F_law_mixed sc_law_mixed B__law_mixed fun _ _ _ _ _ _ us hl => match us, hl with | [_, _], _ => rfl
  have B__law_stream := bd_law_stream (P := P) (w := w) (K := K) (base := base) T h__law_mixed
  have h__law_stream : Has P w K mg base 2 "_law_stream" ["_law_cell", "_law_k"] f_law_stream := has_of F_law_stream sc_law_stream B__law_stream fun _ _ _ _ _ _ us hl => match us, hl with | [_, _], _ => rfl
  have B__law_take := bd_law_take (P := P) (w := w) (K := K) (base := base) T h__law_mixed
  have h__law_take : Has P w K mg base 2 "_law_take" ["_law_stream_here", "_law_many"] f_law_take := has_of F_law_take sc_law_take B__law_take fun _ _ _ _ _ _ us hl => match us, hl with | [_, _], _ => rfl
  have B__law_signs := bd_law_signs (P := P) (w := w) (K := K) (base := base) T h__law_take
  have h__law_signs : Has P w K mg base 3 "_law_signs" ["_law_stream_here", "_law_many"] f_law_signs := has_of F_law_signs sc_law_signs B__law_signs fun _ _ _ _ _ _ us hl => match us, hl with | [_, _], _ => rfl
  have B__law_side := bd_law_side (P := P) (w := w) (K := K) (base := base) T h__law_take
  have h__law_side : Has P w K mg base 3 "_law_side" ["_law_stream_here", "_law_signs_here", "_law_end"] f_law_side := has_of F_law_side sc_law_side B__law_side fun _ _ _ _ _ _ us hl => match us, hl with | [_, _, _], _ => rfl
  have B__law_rule := bd_law_rule (P := P) (w := w) (K := K) (base := base) T h__law_side h__law_take
  have h__law_rule : Has P w K mg base 4 "_law_rule" ["_law_stream_here", "_law_signs_here"] f_law_rule := has_of F_law_rule sc_law_rule B__law_rule fun _ _ _ _ _ _ us hl => match us, hl with | [_, _], _ => rfl
  have B__law_rules := bd_law_rules (P := P) (w := w) (K := K) (base := base) T h__law_rule h__law_take
  have h__law_rules : Has P w K mg base 5 "_law_rules" ["_law_stream_here", "_law_signs_here", "_law_many"] f_law_rules := has_of F_law_rules sc_law_rules B__law_rules fun _ _ _ _ _ _ us hl => match us, hl with | [_, _, _], _ => rfl
  have B__law_star := bd_law_star (P := P) (w := w) (K := K) (base := base) T h__law_take
  have h__law_star : Has P w K mg base 3 "_law_star" ["_law_stream_here", "_law_signs_here"] f_law_star := has_of F_law_star sc_law_star B__law_star fun _ _ _ _ _ _ us hl => match us, hl with | [_, _], _ => rfl
  have B__law_left_out_right := bd_law_left_out_right (P := P) (w := w) (K := K) (base := base) T h_price h_unlike_price h_parting h_is_within h_same h_alike
  have h__law_left_out_right : Has P w K mg base 7 "_law_left_out_right" ["_law_wide", "_law_rest", "_law_part"] f_law_left_out_right := has_of F_law_left_out_right sc_law_left_out_right B__law_left_out_right fun _ _ _ _ _ _ us hl => match us, hl with | [_, _, _], _ => rfl
  have B_law := bdlaw (P := P) (w := w) (K := K) (base := base) T h__law_stream h__law_signs h__law_take h__law_rules h__law_star h_same h_how_many h__law_left_out_right h_needless h_price
  exact B_law
end
end FDL
namespace FDL
open PySem L2 FD
theorem con_int {mg : Str → Option Value} {x : Str} {i : Int} {t : Tok} (h : mg x = some (.int i t)) : Con mg x (.int i) := ⟨rfl, _, h, ⟨t, rfl⟩⟩
theorem con_str {mg : Str → Option Value} {x s : Str} {t : Tok} (h : mg x = some (.str s t)) : Con mg x (.str s) := ⟨rfl, _, h, ⟨t, rfl⟩⟩
theorem all_mk {l : PySem.W.OpenLaw} {w : World} {K : PySem.W.Frag} {h : Heap} {mg : Str → Option Value} {fa : Addr} {f0 : Addr} {oc0 dc0 pm0 cd0 ct0 : Value} {od0 an0 : Option Addr} {sl0 : Array (Option Value)} {D0 : Addr} {t0_0 : Tok} {t0_1 : Tok} {f1 : Addr} {oc1 kV1 dc1 pm1 cd1 ct1 : Value} {od1 an1 : Option Addr} {sl1 : Array (Option Value)} {f2 : Addr} {oc2 kV2 dc2 pm2 cd2 ct2 : Value} {od2 an2 : Option Addr} {sl2 : Array (Option Value)} {f3 : Addr} {oc3 kV3 dc3 pm3 cd3 ct3 : Value} {od3 an3 : Option Addr} {sl3 : Array (Option Value)} {f4 : Addr} {oc4 kV4 dc4 pm4 cd4 ct4 : Value} {od4 an4 : Option Addr} {sl4 : Array (Option Value)} {f5 : Addr} {oc5 kV5 dc5 pm5 cd5 ct5 : Value} {od5 an5 : Option Addr} {sl5 : Array (Option Value)} {f6 : Addr} {oc6 kV6 dc6 pm6 cd6 ct6 : Value} {od6 an6 : Option Addr} {sl6 : Array (Option Value)} {f7 : Addr} {oc7 kV7 dc7 pm7 cd7 ct7 : Value} {od7 an7 : Option Addr} {sl7 : Array (Option Value)} {f8 : Addr} {oc8 kV8 dc8 pm8 cd8 ct8 : Value} {od8 an8 : Option Addr} {sl8 : Array (Option Value)} {f9 : Addr} {oc9 kV9 dc9 pm9 cd9 ct9 : Value} {od9 an9 : Option Addr} {sl9 : Array (Option Value)} {f10 : Addr} {oc10 kV10 dc10 pm10 cd10 ct10 : Value} {od10 an10 : Option Addr} {sl10 : Array (Option Value)} {f11 : Addr} {oc11 kV11 dc11 pm11 cd11 ct11 : Value} {od11 an11 : Option Addr} {sl11 : Array (Option Value)} {f12 : Addr} {oc12 kV12 dc12 pm12 cd12 ct12 : Value} {od12 an12 : Option Addr} {sl12 : Array (Option Value)} {f13 : Addr} {oc13 kV13 dc13 pm13 cd13 ct13 : Value} {od13 an13 : Option Addr} {sl13 : Array (Option Value)} {f14 : Addr} {oc14 kV14 dc14 pm14 cd14 ct14 : Value} {od14 an14 : Option Addr} {sl14 : Array (Option Value)} {f15 : Addr} {oc15 kV15 dc15 pm15 cd15 ct15 : Value} {od15 an15 : Option Addr} {sl15 : Array (Option Value)} {f16 : Addr} {oc16 kV16 dc16 pm16 cd16 ct16 : Value} {od16 an16 : Option Addr} {sl16 : Array (Option Value)} {f17 : Addr} {oc17 kV17 dc17 pm17 cd17 ct17 : Value} {od17 an17 : Option Addr} {sl17 : Array (Option Value)} {f18 : Addr} {oc18 kV18 dc18 pm18 cd18 ct18 : Value} {od18 an18 : Option Addr} {sl18 : Array (Option Value)} {f19 : Addr} {oc19 kV19 dc19 pm19 cd19 ct19 : Value} {od19 an19 : Option Addr} {sl19 : Array (Option Value)} {f20 : Addr} {oc20 kV20 dc20 pm20 cd20 ct20 : Value} {od20 an20 : Option Addr} {sl20 : Array (Option Value)} {f21 : Addr} {oc21 kV21 dc21 pm21 cd21 ct21 : Value} {od21 an21 : Option Addr} {sl21 : Array (Option Value)} {f22 : Addr} {oc22 kV22 dc22 pm22 cd22 ct22 : Value} {od22 an22 : Option Addr} {sl22 : Array (Option Value)} {f23 : Addr} {oc23 kV23 dc23 pm23 cd23 ct23 : Value} {od23 an23 : Option Addr} {sl23 : Array (Option Value)} {f24 : Addr} {oc24 kV24 dc24 pm24 cd24 ct24 : Value} {od24 an24 : Option Addr} {sl24 : Array (Option Value)} {f25 : Addr} {oc25 kV25 dc25 pm25 cd25 ct25 : Value} {od25 an25 : Option Addr} {sl25 : Array (Option Value)} {f26 : Addr} {oc26 kV26 dc26 pm26 cd26 ct26 : Value} {od26 an26 : Option Addr} {sl26 : Array (Option Value)} {f27 : Addr} {oc27 kV27 dc27 pm27 cd27 ct27 : Value} {od27 an27 : Option Addr} {sl27 : Array (Option Value)} {f28 : Addr} {oc28 kV28 dc28 pm28 cd28 ct28 : Value} {od28 an28 : Option Addr} {sl28 : Array (Option Value)} {f29 : Addr} {oc29 kV29 dc29 pm29 cd29 ct29 : Value} {od29 an29 : Option Addr} {sl29 : Array (Option Value)} {f30 : Addr} {oc30 kV30 dc30 pm30 cd30 ct30 : Value} {od30 an30 : Option Addr} {sl30 : Array (Option Value)} {u_ANY_SIGN : Tok} {u_FIRST_END : Tok} {u_LAST_END : Tok} {u_LETTERS : Tok} {u_MOST_PRICE : Tok} {u_MOST_RULES : Tok} (X : K.In h) (G : h.Ns mainGlobals mg) (hfa : mg "law" = some (.ref fa))
    (a0 : PySem.W.nsIn K mainGlobals "is_whole" = some (some (.ref f0)))
    (l0 : K.lookup f0 = some ⟨oc0, od0, .func (PySem.W.fnOf "is_whole" "is_whole" (defArgs sis_whole) (defBody sis_whole) (defScope sis_whole) .none (.ref D0) dc0 pm0 an0 cd0 ct0), sl0⟩)
    (c0 : PySem.W.codeIn K cd0 "is_whole" = true)
    (k0 : PySem.W.keepIn K (.ref f0) = true)
    (w0_0 : PySem.W.nsIn K D0 "least" = some (some (.int 0 t0_0)))
    (w0_1 : PySem.W.nsIn K D0 "most" = some (some (.int 120 t0_1)))
    (a1 : PySem.W.nsIn K mainGlobals "is_letter" = some (some (.ref f1)))
    (l1 : K.lookup f1 = some ⟨oc1, od1, .func (PySem.W.fnOf "is_letter" "is_letter" (defArgs sis_letter) (defBody sis_letter) (defScope sis_letter) .none kV1 dc1 pm1 an1 cd1 ct1), sl1⟩)
    (c1 : PySem.W.codeIn K cd1 "is_letter" = true)
    (k1 : PySem.W.keepIn K (.ref f1) = true)
    (a2 : PySem.W.nsIn K mainGlobals "is_side" = some (some (.ref f2)))
    (l2 : K.lookup f2 = some ⟨oc2, od2, .func (PySem.W.fnOf "is_side" "is_side" (defArgs sis_side) (defBody sis_side) (defScope sis_side) .none kV2 dc2 pm2 an2 cd2 ct2), sl2⟩)
    (c2 : PySem.W.codeIn K cd2 "is_side" = true)
    (k2 : PySem.W.keepIn K (.ref f2) = true)
    (a3 : PySem.W.nsIn K mainGlobals "rule_looks" = some (some (.ref f3)))
    (l3 : K.lookup f3 = some ⟨oc3, od3, .func (PySem.W.fnOf "rule_looks" "rule_looks" (defArgs srule_looks) (defBody srule_looks) (defScope srule_looks) .none kV3 dc3 pm3 an3 cd3 ct3), sl3⟩)
    (c3 : PySem.W.codeIn K cd3 "rule_looks" = true)
    (k3 : PySem.W.keepIn K (.ref f3) = true)
    (a4 : PySem.W.nsIn K mainGlobals "need_book" = some (some (.ref f4)))
    (l4 : K.lookup f4 = some ⟨oc4, od4, .func (PySem.W.fnOf "need_book" "need_book" (defArgs sneed_book) (defBody sneed_book) (defScope sneed_book) .none kV4 dc4 pm4 an4 cd4 ct4), sl4⟩)
    (c4 : PySem.W.codeIn K cd4 "need_book" = true)
    (k4 : PySem.W.keepIn K (.ref f4) = true)
    (a5 : PySem.W.nsIn K mainGlobals "need_case" = some (some (.ref f5)))
    (l5 : K.lookup f5 = some ⟨oc5, od5, .func (PySem.W.fnOf "need_case" "need_case" (defArgs sneed_case) (defBody sneed_case) (defScope sneed_case) .none kV5 dc5 pm5 an5 cd5 ct5), sl5⟩)
    (c5 : PySem.W.codeIn K cd5 "need_case" = true)
    (k5 : PySem.W.keepIn K (.ref f5) = true)
    (a6 : PySem.W.nsIn K mainGlobals "fits_case" = some (some (.ref f6)))
    (l6 : K.lookup f6 = some ⟨oc6, od6, .func (PySem.W.fnOf "fits_case" "fits_case" (defArgs sfits_case) (defBody sfits_case) (defScope sfits_case) .none kV6 dc6 pm6 an6 cd6 ct6), sl6⟩)
    (c6 : PySem.W.codeIn K cd6 "fits_case" = true)
    (k6 : PySem.W.keepIn K (.ref f6) = true)
    (a7 : PySem.W.nsIn K mainGlobals "price_there" = some (some (.ref f7)))
    (l7 : K.lookup f7 = some ⟨oc7, od7, .func (PySem.W.fnOf "price_there" "price_there" (defArgs sprice_there) (defBody sprice_there) (defScope sprice_there) .none kV7 dc7 pm7 an7 cd7 ct7), sl7⟩)
    (c7 : PySem.W.codeIn K cd7 "price_there" = true)
    (k7 : PySem.W.keepIn K (.ref f7) = true)
    (a8 : PySem.W.nsIn K mainGlobals "price" = some (some (.ref f8)))
    (l8 : K.lookup f8 = some ⟨oc8, od8, .func (PySem.W.fnOf "price" "price" (defArgs sprice) (defBody sprice) (defScope sprice) .none kV8 dc8 pm8 an8 cd8 ct8), sl8⟩)
    (c8 : PySem.W.codeIn K cd8 "price" = true)
    (k8 : PySem.W.keepIn K (.ref f8) = true)
    (a9 : PySem.W.nsIn K mainGlobals "signs_for" = some (some (.ref f9)))
    (l9 : K.lookup f9 = some ⟨oc9, od9, .func (PySem.W.fnOf "signs_for" "signs_for" (defArgs ssigns_for) (defBody ssigns_for) (defScope ssigns_for) .none kV9 dc9 pm9 an9 cd9 ct9), sl9⟩)
    (c9 : PySem.W.codeIn K cd9 "signs_for" = true)
    (k9 : PySem.W.keepIn K (.ref f9) = true)
    (a10 : PySem.W.nsIn K mainGlobals "rule_cases" = some (some (.ref f10)))
    (l10 : K.lookup f10 = some ⟨oc10, od10, .func (PySem.W.fnOf "rule_cases" "rule_cases" (defArgs srule_cases) (defBody srule_cases) (defScope srule_cases) .none kV10 dc10 pm10 an10 cd10 ct10), sl10⟩)
    (c10 : PySem.W.codeIn K cd10 "rule_cases" = true)
    (k10 : PySem.W.keepIn K (.ref f10) = true)
    (a11 : PySem.W.nsIn K mainGlobals "price_table" = some (some (.ref f11)))
    (l11 : K.lookup f11 = some ⟨oc11, od11, .func (PySem.W.fnOf "price_table" "price_table" (defArgs sprice_table) (defBody sprice_table) (defScope sprice_table) .none kV11 dc11 pm11 an11 cd11 ct11), sl11⟩)
    (c11 : PySem.W.codeIn K cd11 "price_table" = true)
    (k11 : PySem.W.keepIn K (.ref f11) = true)
    (a12 : PySem.W.nsIn K mainGlobals "how_many" = some (some (.ref f12)))
    (l12 : K.lookup f12 = some ⟨oc12, od12, .func (PySem.W.fnOf "how_many" "how_many" (defArgs show_many) (defBody show_many) (defScope show_many) .none kV12 dc12 pm12 an12 cd12 ct12), sl12⟩)
    (c12 : PySem.W.codeIn K cd12 "how_many" = true)
    (k12 : PySem.W.keepIn K (.ref f12) = true)
    (a13 : PySem.W.nsIn K mainGlobals "two_tables" = some (some (.ref f13)))
    (l13 : K.lookup f13 = some ⟨oc13, od13, .func (PySem.W.fnOf "two_tables" "two_tables" (defArgs stwo_tables) (defBody stwo_tables) (defScope stwo_tables) .none kV13 dc13 pm13 an13 cd13 ct13), sl13⟩)
    (c13 : PySem.W.codeIn K cd13 "two_tables" = true)
    (k13 : PySem.W.keepIn K (.ref f13) = true)
    (a14 : PySem.W.nsIn K mainGlobals "alike" = some (some (.ref f14)))
    (l14 : K.lookup f14 = some ⟨oc14, od14, .func (PySem.W.fnOf "alike" "alike" (defArgs salike) (defBody salike) (defScope salike) .none kV14 dc14 pm14 an14 cd14 ct14), sl14⟩)
    (c14 : PySem.W.codeIn K cd14 "alike" = true)
    (k14 : PySem.W.keepIn K (.ref f14) = true)
    (a15 : PySem.W.nsIn K mainGlobals "same" = some (some (.ref f15)))
    (l15 : K.lookup f15 = some ⟨oc15, od15, .func (PySem.W.fnOf "same" "same" (defArgs ssame) (defBody ssame) (defScope ssame) .none kV15 dc15 pm15 an15 cd15 ct15), sl15⟩)
    (c15 : PySem.W.codeIn K cd15 "same" = true)
    (k15 : PySem.W.keepIn K (.ref f15) = true)
    (a16 : PySem.W.nsIn K mainGlobals "is_within" = some (some (.ref f16)))
    (l16 : K.lookup f16 = some ⟨oc16, od16, .func (PySem.W.fnOf "is_within" "is_within" (defArgs sis_within) (defBody sis_within) (defScope sis_within) .none kV16 dc16 pm16 an16 cd16 ct16), sl16⟩)
    (c16 : PySem.W.codeIn K cd16 "is_within" = true)
    (k16 : PySem.W.keepIn K (.ref f16) = true)
    (a17 : PySem.W.nsIn K mainGlobals "parting" = some (some (.ref f17)))
    (l17 : K.lookup f17 = some ⟨oc17, od17, .func (PySem.W.fnOf "parting" "parting" (defArgs sparting) (defBody sparting) (defScope sparting) .none kV17 dc17 pm17 an17 cd17 ct17), sl17⟩)
    (c17 : PySem.W.codeIn K cd17 "parting" = true)
    (k17 : PySem.W.keepIn K (.ref f17) = true)
    (a18 : PySem.W.nsIn K mainGlobals "unlike_price" = some (some (.ref f18)))
    (l18 : K.lookup f18 = some ⟨oc18, od18, .func (PySem.W.fnOf "unlike_price" "unlike_price" (defArgs sunlike_price) (defBody sunlike_price) (defScope sunlike_price) .none kV18 dc18 pm18 an18 cd18 ct18), sl18⟩)
    (c18 : PySem.W.codeIn K cd18 "unlike_price" = true)
    (k18 : PySem.W.keepIn K (.ref f18) = true)
    (a19 : PySem.W.nsIn K mainGlobals "is_needless" = some (some (.ref f19)))
    (l19 : K.lookup f19 = some ⟨oc19, od19, .func (PySem.W.fnOf "is_needless" "is_needless" (defArgs sis_needless) (defBody sis_needless) (defScope sis_needless) .none kV19 dc19 pm19 an19 cd19 ct19), sl19⟩)
    (c19 : PySem.W.codeIn K cd19 "is_needless" = true)
    (k19 : PySem.W.keepIn K (.ref f19) = true)
    (a20 : PySem.W.nsIn K mainGlobals "needless" = some (some (.ref f20)))
    (l20 : K.lookup f20 = some ⟨oc20, od20, .func (PySem.W.fnOf "needless" "needless" (defArgs sneedless) (defBody sneedless) (defScope sneedless) .none kV20 dc20 pm20 an20 cd20 ct20), sl20⟩)
    (c20 : PySem.W.codeIn K cd20 "needless" = true)
    (k20 : PySem.W.keepIn K (.ref f20) = true)
    (a21 : PySem.W.nsIn K mainGlobals "_law_mixed" = some (some (.ref f21)))
    (l21 : K.lookup f21 = some ⟨oc21, od21, .func (PySem.W.fnOf "_law_mixed" "_law_mixed" (defArgs s_law_mixed) (defBody s_law_mixed) (defScope s_law_mixed) .none kV21 dc21 pm21 an21 cd21 ct21), sl21⟩)
    (c21 : PySem.W.codeIn K cd21 "_law_mixed" = true)
    (k21 : PySem.W.keepIn K (.ref f21) = true)
    (a22 : PySem.W.nsIn K mainGlobals "_law_stream" = some (some (.ref f22)))
    (l22 : K.lookup f22 = some ⟨oc22, od22, .func (PySem.W.fnOf "_law_stream" "_law_stream" (defArgs s_law_stream) (defBody s_law_stream) (defScope s_law_stream) .none kV22 dc22 pm22 an22 cd22 ct22), sl22⟩)
    (c22 : PySem.W.codeIn K cd22 "_law_stream" = true)
    (k22 : PySem.W.keepIn K (.ref f22) = true)
    (a23 : PySem.W.nsIn K mainGlobals "_law_take" = some (some (.ref f23)))
    (l23 : K.lookup f23 = some ⟨oc23, od23, .func (PySem.W.fnOf "_law_take" "_law_take" (defArgs s_law_take) (defBody s_law_take) (defScope s_law_take) .none kV23 dc23 pm23 an23 cd23 ct23), sl23⟩)
    (c23 : PySem.W.codeIn K cd23 "_law_take" = true)
    (k23 : PySem.W.keepIn K (.ref f23) = true)
    (a24 : PySem.W.nsIn K mainGlobals "_law_signs" = some (some (.ref f24)))
    (l24 : K.lookup f24 = some ⟨oc24, od24, .func (PySem.W.fnOf "_law_signs" "_law_signs" (defArgs s_law_signs) (defBody s_law_signs) (defScope s_law_signs) .none kV24 dc24 pm24 an24 cd24 ct24), sl24⟩)
    (c24 : PySem.W.codeIn K cd24 "_law_signs" = true)
    (k24 : PySem.W.keepIn K (.ref f24) = true)
    (a25 : PySem.W.nsIn K mainGlobals "_law_side" = some (some (.ref f25)))
    (l25 : K.lookup f25 = some ⟨oc25, od25, .func (PySem.W.fnOf "_law_side" "_law_side" (defArgs s_law_side) (defBody s_law_side) (defScope s_law_side) .none kV25 dc25 pm25 an25 cd25 ct25), sl25⟩)
    (c25 : PySem.W.codeIn K cd25 "_law_side" = true)
    (k25 : PySem.W.keepIn K (.ref f25) = true)
    (a26 : PySem.W.nsIn K mainGlobals "_law_rule" = some (some (.ref f26)))
    (l26 : K.lookup f26 = some ⟨oc26, od26, .func (PySem.W.fnOf "_law_rule" "_law_rule" (defArgs s_law_rule) (defBody s_law_rule) (defScope s_law_rule) .none kV26 dc26 pm26 an26 cd26 ct26), sl26⟩)
    (c26 : PySem.W.codeIn K cd26 "_law_rule" = true)
    (k26 : PySem.W.keepIn K (.ref f26) = true)
    (a27 : PySem.W.nsIn K mainGlobals "_law_rules" = some (some (.ref f27)))
    (l27 : K.lookup f27 = some ⟨oc27, od27, .func (PySem.W.fnOf "_law_rules" "_law_rules" (defArgs s_law_rules) (defBody s_law_rules) (defScope s_law_rules) .none kV27 dc27 pm27 an27 cd27 ct27), sl27⟩)
    (c27 : PySem.W.codeIn K cd27 "_law_rules" = true)
    (k27 : PySem.W.keepIn K (.ref f27) = true)
    (a28 : PySem.W.nsIn K mainGlobals "_law_star" = some (some (.ref f28)))
    (l28 : K.lookup f28 = some ⟨oc28, od28, .func (PySem.W.fnOf "_law_star" "_law_star" (defArgs s_law_star) (defBody s_law_star) (defScope s_law_star) .none kV28 dc28 pm28 an28 cd28 ct28), sl28⟩)
    (c28 : PySem.W.codeIn K cd28 "_law_star" = true)
    (k28 : PySem.W.keepIn K (.ref f28) = true)
    (a29 : PySem.W.nsIn K mainGlobals "_law_left_out_right" = some (some (.ref f29)))
    (l29 : K.lookup f29 = some ⟨oc29, od29, .func (PySem.W.fnOf "_law_left_out_right" "_law_left_out_right" (defArgs s_law_left_out_right) (defBody s_law_left_out_right) (defScope s_law_left_out_right) .none kV29 dc29 pm29 an29 cd29 ct29), sl29⟩)
    (c29 : PySem.W.codeIn K cd29 "_law_left_out_right" = true)
    (k29 : PySem.W.keepIn K (.ref f29) = true)
    (a30 : PySem.W.nsIn K mainGlobals "law" = some (some (.ref f30)))
    (l30 : K.lookup f30 = some ⟨oc30, od30, .func (PySem.W.fnOf "law" "law" (defArgs slaw) (defBody slaw) (defScope slaw) .none kV30 dc30 pm30 an30 cd30 ct30), sl30⟩)
    (c30 : PySem.W.codeIn K cd30 "law" = true)
    (k30 : PySem.W.keepIn K (.ref f30) = true)
    (z_all : PySem.W.nsIn K mainGlobals "all" = some none)
    (z_any : PySem.W.nsIn K mainGlobals "any" = some none)
    (z_bool : PySem.W.nsIn K mainGlobals "bool" = some none)
    (z_enumerate : PySem.W.nsIn K mainGlobals "enumerate" = some none)
    (z_int : PySem.W.nsIn K mainGlobals "int" = some none)
    (z_isinstance : PySem.W.nsIn K mainGlobals "isinstance" = some none)
    (z_len : PySem.W.nsIn K mainGlobals "len" = some none)
    (z_list : PySem.W.nsIn K mainGlobals "list" = some none)
    (z_min : PySem.W.nsIn K mainGlobals "min" = some none)
    (z_range : PySem.W.nsIn K mainGlobals "range" = some none)
    (z_repr : PySem.W.nsIn K mainGlobals "repr" = some none)
    (z_sorted : PySem.W.nsIn K mainGlobals "sorted" = some none)
    (z_str : PySem.W.nsIn K mainGlobals "str" = some none)
    (z_tuple : PySem.W.nsIn K mainGlobals "tuple" = some none)
    (y_ANY_SIGN : PySem.W.nsIn K mainGlobals "ANY_SIGN" = some (some (.str "*" u_ANY_SIGN)))
    (y_FIRST_END : PySem.W.nsIn K mainGlobals "FIRST_END" = some (some (.str "<" u_FIRST_END)))
    (y_LAST_END : PySem.W.nsIn K mainGlobals "LAST_END" = some (some (.str ">" u_LAST_END)))
    (y_LETTERS : PySem.W.nsIn K mainGlobals "LETTERS" = some (some (.str "abcdefghijklmnopqrstuvwxyz" u_LETTERS)))
    (y_MOST_PRICE : PySem.W.nsIn K mainGlobals "MOST_PRICE" = some (some (.int 999 u_MOST_PRICE)))
    (y_MOST_RULES : PySem.W.nsIn K mainGlobals "MOST_RULES" = some (some (.int 80 u_MOST_RULES)))
    : ∃ fd : FuncData, (∀ (s : Shared) (v : Value), BindsTo s fd ⟨[v], []⟩ [("_law_script", v)]) ∧ ∀ base : Heap, K.In base → base.Ns mainGlobals mg → FnG l.prog w K mg base 8 fa fd ["_law_script"] (spF K flaw) := by
  have e := hfa.symm.trans (PySem.W.mg_of X G a30)
  cases e
  have T : Txt mg := ⟨PySem.W.mg_none_of X G z_all, PySem.W.mg_none_of X G z_any, PySem.W.mg_none_of X G z_bool, PySem.W.mg_none_of X G z_enumerate, PySem.W.mg_none_of X G z_int, PySem.W.mg_none_of X G z_isinstance, PySem.W.mg_none_of X G z_len, PySem.W.mg_none_of X G z_list, PySem.W.mg_none_of X G z_min, PySem.W.mg_none_of X G z_range, PySem.W.mg_none_of X G z_repr, PySem.W.mg_none_of X G z_sorted, PySem.W.mg_none_of X G z_str, PySem.W.mg_none_of X G z_tuple, con_str (PySem.W.mg_of X G y_ANY_SIGN), con_str (PySem.W.mg_of X G y_FIRST_END), con_str (PySem.W.mg_of X G y_LAST_END), con_str (PySem.W.mg_of X G y_LETTERS), con_int (PySem.W.mg_of X G y_MOST_PRICE), con_int (PySem.W.mg_of X G y_MOST_RULES)⟩
  have Fis_whole : FunDAt K mg "is_whole" sis_whole [("least", flatOf (.int 0)), ("most", flatOf (.int 120))] := ⟨_, _, ⟨⟨_, _, _, _, _, _, _, _, _, _, rfl, l0, c0, .inl ⟨rfl, rfl⟩, .inr ⟨D0, rfl, fun q hq => by
      simp only [List.mem_cons, List.not_mem_nil, or_false] at hq
      rcases hq with rfl | rfl
      · exact ⟨_, w0_0, ⟨_, rfl⟩⟩
      · exact ⟨_, w0_1, ⟨_, rfl⟩⟩
    ⟩⟩, k0⟩, PySem.W.mg_of X G a0⟩
  have Fis_letter : FunAt K mg "is_letter" sis_letter := ⟨_, _, fun_mk (st := sis_letter) l1 c1 k1, PySem.W.mg_of X G a1⟩
  have Fis_side : FunAt K mg "is_side" sis_side := ⟨_, _, fun_mk (st := sis_side) l2 c2 k2, PySem.W.mg_of X G a2⟩
  have Frule_looks : FunAt K mg "rule_looks" srule_looks := ⟨_, _, fun_mk (st := srule_looks) l3 c3 k3, PySem.W.mg_of X G a3⟩
  have Fneed_book : FunAt K mg "need_book" sneed_book := ⟨_, _, fun_mk (st := sneed_book) l4 c4 k4, PySem.W.mg_of X G a4⟩
  have Fneed_case : FunAt K mg "need_case" sneed_case := ⟨_, _, fun_mk (st := sneed_case) l5 c5 k5, PySem.W.mg_of X G a5⟩
  have Ffits_case : FunAt K mg "fits_case" sfits_case := ⟨_, _, fun_mk (st := sfits_case) l6 c6 k6, PySem.W.mg_of X G a6⟩
  have Fprice_there : FunAt K mg "price_there" sprice_there := ⟨_, _, fun_mk (st := sprice_there) l7 c7 k7, PySem.W.mg_of X G a7⟩
  have Fprice : FunAt K mg "price" sprice := ⟨_, _, fun_mk (st := sprice) l8 c8 k8, PySem.W.mg_of X G a8⟩
  have Fsigns_for : FunAt K mg "signs_for" ssigns_for := ⟨_, _, fun_mk (st := ssigns_for) l9 c9 k9, PySem.W.mg_of X G a9⟩
  have Frule_cases : FunAt K mg "rule_cases" srule_cases := ⟨_, _, fun_mk (st := srule_cases) l10 c10 k10, PySem.W.mg_of X G a10⟩
  have Fprice_table : FunAt K mg "price_table" sprice_table := ⟨_, _, fun_mk (st := sprice_table) l11 c11 k11, PySem.W.mg_of X G a11⟩
  have Fhow_many : FunAt K mg "how_many" show_many := ⟨_, _, fun_mk (st := show_many) l12 c12 k12, PySem.W.mg_of X G a12⟩
  have Ftwo_tables : FunAt K mg "two_tables" stwo_tables := ⟨_, _, fun_mk (st := stwo_tables) l13 c13 k13, PySem.W.mg_of X G a13⟩
  have Falike : FunAt K mg "alike" salike := ⟨_, _, fun_mk (st := salike) l14 c14 k14, PySem.W.mg_of X G a14⟩
  have Fsame : FunAt K mg "same" ssame := ⟨_, _, fun_mk (st := ssame) l15 c15 k15, PySem.W.mg_of X G a15⟩
  have Fis_within : FunAt K mg "is_within" sis_within := ⟨_, _, fun_mk (st := sis_within) l16 c16 k16, PySem.W.mg_of X G a16⟩
  have Fparting : FunAt K mg "parting" sparting := ⟨_, _, fun_mk (st := sparting) l17 c17 k17, PySem.W.mg_of X G a17⟩
  have Funlike_price : FunAt K mg "unlike_price" sunlike_price := ⟨_, _, fun_mk (st := sunlike_price) l18 c18 k18, PySem.W.mg_of X G a18⟩
  have Fis_needless : FunAt K mg "is_needless" sis_needless := ⟨_, _, fun_mk (st := sis_needless) l19 c19 k19, PySem.W.mg_of X G a19⟩
  have Fneedless : FunAt K mg "needless" sneedless := ⟨_, _, fun_mk (st := sneedless) l20 c20 k20, PySem.W.mg_of X G a20⟩
  have F_law_mixed : FunAt K mg "_law_mixed" s_law_mixed := ⟨_, _, fun_mk (st := s_law_mixed) l21 c21 k21, PySem.W.mg_of X G a21⟩
  have F_law_stream : FunAt K mg "_law_stream" s_law_stream := ⟨_, _, fun_mk (st := s_law_stream) l22 c22 k22, PySem.W.mg_of X G a22⟩
  have F_law_take : FunAt K mg "_law_take" s_law_take := ⟨_, _, fun_mk (st := s_law_take) l23 c23 k23, PySem.W.mg_of X G a23⟩
  have F_law_signs : FunAt K mg "_law_signs" s_law_signs := ⟨_, _, fun_mk (st := s_law_signs) l24 c24 k24, PySem.W.mg_of X G a24⟩
  have F_law_side : FunAt K mg "_law_side" s_law_side := ⟨_, _, fun_mk (st := s_law_side) l25 c25 k25, PySem.W.mg_of X G a25⟩
  have F_law_rule : FunAt K mg "_law_rule" s_law_rule := ⟨_, _, fun_mk (st := s_law_rule) l26 c26 k26, PySem.W.mg_of X G a26⟩
  have F_law_rules : FunAt K mg "_law_rules" s_law_rules := ⟨_, _, fun_mk (st := s_law_rules) l27 c27 k27, PySem.W.mg_of X G a27⟩
  have F_law_star : FunAt K mg "_law_star" s_law_star := ⟨_, _, fun_mk (st := s_law_star) l28 c28 k28, PySem.W.mg_of X G a28⟩
  have F_law_left_out_right : FunAt K mg "_law_left_out_right" s_law_left_out_right := ⟨_, _, fun_mk (st := s_law_left_out_right) l29 c29 k29, PySem.W.mg_of X G a29⟩
  refine ⟨_, fun s v => ?_, fun base _ _ => fn_F (fun_mk (st := slaw) l30 c30 k30) sclaw fun cdv A outer s H vs E hg hr => all_ok T Fis_whole Fis_letter Fis_side Frule_looks Fneed_book Fneed_case Ffits_case Fprice_there Fprice Fsigns_for Frule_cases Fprice_table Fhow_many Ftwo_tables Falike Fsame Fis_within Fparting Funlike_price Fis_needless Fneedless F_law_mixed F_law_stream F_law_take F_law_signs F_law_side F_law_rule F_law_rules F_law_star F_law_left_out_right _ cdv A outer s H vs E hg hr⟩
  exact .of_eq rfl
theorem walk (law_true : ∀ ns : List Int, ns.length ≤ 63 → ∃ ms', flaw [.im (.list (ns.map .int))] = .ok (.im (.bool true)) ms') {l : PySem.W.OpenLaw} {q : Program} {loose : List Str} {XP : (Str → Option Value) → Heap → Prop} {YP : World → Heap → Prop} {d : DefRec} {K : Params → PySem.W.Frag} (hn : l.most = some 63) (hdf : d.params.defaults = [])
    (hY : ∀ (w : World) (h : Heap), YP w h → (K w.params).In h)
    (F : ∀ (w : World) (mg : Str → Option Value) (fa : Addr) (h : Heap), (K w.params).In h → h.Ns mainGlobals mg → mg d.name = some (.ref fa) → ∃ fd : FuncData, (∀ (s : Shared) (u : Value), BindsTo s fd ⟨[u], []⟩ [("_law_script", u)]) ∧ ∀ base : Heap, (K w.params).In base → base.Ns mainGlobals mg → FnG l.prog w (K w.params) mg base 8 fa fd ["_law_script"] (spF (K w.params) flaw)) :
    PySem.W.WalkO q loose XP YP l.row.toRowW d [] (fun f vs => PySem.call f vs) :=
  walk_G (n := 63) (k := 8) (x := "_law_script") (sp := fun K => spF K flaw) hn (by decide) hdf ⟨rfl, by decide, by decide⟩ hY F fun K H a ns hl hs => law_hs law_true K H a ns hl hs fun p hp => by cases hp
end FDL
open PySem PySem.W PyProof.Rows in
set_option maxRecDepth 100000 in
set_option maxHeartbeats 0 in
theorem PySem.Challenge.cw_strikeline_k07_whole_a_star_is_all_holds : PySem.Challenge.rw_strikeline_k07_whole_a_star_is_all.Holds := by
  w_on; o_law; k_head; (case hw => w_witness2)
  k_fill
  refine FDL.walk FDL.law_true (l := PySem.Challenge.rw_strikeline_k07_whole_a_star_is_all) rfl rfl (fun w h Y => by first | exact PySem.W.kIn_of Y | exact PySem.W.km_in_of Y) ?F
  case F =>
    intro w mg fa h KX G hmg
    refine' FDL.all_mk KX G hmg ?a0 ?l0 ?c0 ?k0 ?w0_0 ?w0_1 ?a1 ?l1 ?c1 ?k1 ?a2 ?l2 ?c2 ?k2 ?a3 ?l3 ?c3 ?k3 ?a4 ?l4 ?c4 ?k4 ?a5 ?l5 ?c5 ?k5 ?a6 ?l6 ?c6 ?k6 ?a7 ?l7 ?c7 ?k7 ?a8 ?l8 ?c8 ?k8 ?a9 ?l9 ?c9 ?k9 ?a10 ?l10 ?c10 ?k10 ?a11 ?l11 ?c11 ?k11 ?a12 ?l12 ?c12 ?k12 ?a13 ?l13 ?c13 ?k13 ?a14 ?l14 ?c14 ?k14 ?a15 ?l15 ?c15 ?k15 ?a16 ?l16 ?c16 ?k16 ?a17 ?l17 ?c17 ?k17 ?a18 ?l18 ?c18 ?k18 ?a19 ?l19 ?c19 ?k19 ?a20 ?l20 ?c20 ?k20 ?a21 ?l21 ?c21 ?k21 ?a22 ?l22 ?c22 ?k22 ?a23 ?l23 ?c23 ?k23 ?a24 ?l24 ?c24 ?k24 ?a25 ?l25 ?c25 ?k25 ?a26 ?l26 ?c26 ?k26 ?a27 ?l27 ?c27 ?k27 ?a28 ?l28 ?c28 ?k28 ?a29 ?l29 ?c29 ?k29 ?a30 ?l30 ?c30 ?k30 ?z_all ?z_any ?z_bool ?z_enumerate ?z_int ?z_isinstance ?z_len ?z_list ?z_min ?z_range ?z_repr ?z_sorted ?z_str ?z_tuple ?y_ANY_SIGN ?y_FIRST_END ?y_LAST_END ?y_LETTERS ?y_MOST_PRICE ?y_MOST_RULES
    (case a0 => k_is)
    (case l0 => k_is)
    (case c0 => k_is)
    (case k0 => k_is)
    (case w0_0 => k_is)
    (case w0_1 => k_is)
    (case a1 => k_is)
    (case l1 => k_is)
    (case c1 => k_is)
    (case k1 => k_is)
    (case a2 => k_is)
    (case l2 => k_is)
    (case c2 => k_is)
    (case k2 => k_is)
    (case a3 => k_is)
    (case l3 => k_is)
    (case c3 => k_is)
    (case k3 => k_is)
    (case a4 => k_is)
    (case l4 => k_is)
    (case c4 => k_is)
    (case k4 => k_is)
    (case a5 => k_is)
    (case l5 => k_is)
    (case c5 => k_is)
    (case k5 => k_is)
    (case a6 => k_is)
    (case l6 => k_is)
    (case c6 => k_is)
    (case k6 => k_is)
    (case a7 => k_is)
    (case l7 => k_is)
    (case c7 => k_is)
    (case k7 => k_is)
    (case a8 => k_is)
    (case l8 => k_is)
    (case c8 => k_is)
    (case k8 => k_is)
    (case a9 => k_is)
    (case l9 => k_is)
    (case c9 => k_is)
    (case k9 => k_is)
    (case a10 => k_is)
    (case l10 => k_is)
    (case c10 => k_is)
    (case k10 => k_is)
    (case a11 => k_is)
    (case l11 => k_is)
    (case c11 => k_is)
    (case k11 => k_is)
    (case a12 => k_is)
    (case l12 => k_is)
    (case c12 => k_is)
    (case k12 => k_is)
    (case a13 => k_is)
    (case l13 => k_is)
    (case c13 => k_is)
    (case k13 => k_is)
    (case a14 => k_is)
    (case l14 => k_is)
    (case c14 => k_is)
    (case k14 => k_is)
    (case a15 => k_is)
    (case l15 => k_is)
    (case c15 => k_is)
    (case k15 => k_is)
    (case a16 => k_is)
    (case l16 => k_is)
    (case c16 => k_is)
    (case k16 => k_is)
    (case a17 => k_is)
    (case l17 => k_is)
    (case c17 => k_is)
    (case k17 => k_is)
    (case a18 => k_is)
    (case l18 => k_is)
    (case c18 => k_is)
    (case k18 => k_is)
    (case a19 => k_is)
    (case l19 => k_is)
    (case c19 => k_is)
    (case k19 => k_is)
    (case a20 => k_is)
    (case l20 => k_is)
    (case c20 => k_is)
    (case k20 => k_is)
    (case a21 => k_is)
    (case l21 => k_is)
    (case c21 => k_is)
    (case k21 => k_is)
    (case a22 => k_is)
    (case l22 => k_is)
    (case c22 => k_is)
    (case k22 => k_is)
    (case a23 => k_is)
    (case l23 => k_is)
    (case c23 => k_is)
    (case k23 => k_is)
    (case a24 => k_is)
    (case l24 => k_is)
    (case c24 => k_is)
    (case k24 => k_is)
    (case a25 => k_is)
    (case l25 => k_is)
    (case c25 => k_is)
    (case k25 => k_is)
    (case a26 => k_is)
    (case l26 => k_is)
    (case c26 => k_is)
    (case k26 => k_is)
    (case a27 => k_is)
    (case l27 => k_is)
    (case c27 => k_is)
    (case k27 => k_is)
    (case a28 => k_is)
    (case l28 => k_is)
    (case c28 => k_is)
    (case k28 => k_is)
    (case a29 => k_is)
    (case l29 => k_is)
    (case c29 => k_is)
    (case k29 => k_is)
    (case a30 => k_is)
    (case l30 => k_is)
    (case c30 => k_is)
    (case k30 => k_is)
    (case z_all => k_is)
    (case z_any => k_is)
    (case z_bool => k_is)
    (case z_enumerate => k_is)
    (case z_int => k_is)
    (case z_isinstance => k_is)
    (case z_len => k_is)
    (case z_list => k_is)
    (case z_min => k_is)
    (case z_range => k_is)
    (case z_repr => k_is)
    (case z_sorted => k_is)
    (case z_str => k_is)
    (case z_tuple => k_is)
    (case y_ANY_SIGN => k_is)
    (case y_FIRST_END => k_is)
    (case y_LAST_END => k_is)
    (case y_LETTERS => k_is)
    (case y_MOST_PRICE => k_is)
    (case y_MOST_RULES => k_is)
#print axioms PySem.Challenge.cw_strikeline_k07_whole_a_star_is_all_holds
