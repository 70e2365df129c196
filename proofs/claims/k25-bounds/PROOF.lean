import PyProof.Rows.All
import Wide.All
import OpenK.AllK
import Wide.FinOn
import HandS.ForMost
import HandS.Exc
import HandS.ExcOwn
import HandS.WordsExc
import HandS.Lambda
import HandS.EndTab
import HandS.Walk
import HandS.Style
import HandS.TupAny
import HandS.More
import HandS.IsInst
import HandS.Steps
import HandS.TupMul
import PyProof.IsRules
import HandS.Replace
import HandS.WordsDict
import HandS.Small
import HandS.Flow
import HandS.Zip
import HandS.Rev
import HandS.AnyAll
import HandS.GenOver
import PyProof.Draws
import PyProof.EnumMake
import KE.GoesEnum
import HandS.ExcIs
import HandS.HeadHook4
import HandS.WrittenGet
import HandS.SetKeys
import HandS.Strs
import KE.GoesMore
import HandS.DictComp
import PyProof.SumAny
import PyProof.TupleOfGen
import PyProof.JoinWalk
import PyProof.CollectWalk
import PyProof.StrOps2
import PyProof.P3In
import HandS.HeadWalk
import HandS.Head0
import HandS.Head1
import HandS.Head2
import PySem.Challenge.RW_truetotype_k25_bounds
import PyProof.ExcBaseAll.ValueError
import PyProof.ExcBaseAll.Exception
set_option Elab.async false
set_option linter.all false
set_option maxRecDepth 100000
/-! Sh: a pure reading of defs. Data by value (D), local containers by value (own, borrowed), shared objects by number. -/
namespace Sh
open PySem PySem.Spec PyProof.Rows L2

/-- data by value -/
inductive D where
  | non | bl (b : Bool) | int (i : Int) | str (x : Str) | ty (n : String) | tup (xs : List D) | ref (j : Nat)
  deriving Inhabited

/-- a container -/
inductive Cn where
  | lst (xs : List D) | dct (kvs : List (Key × D)) | fz (xs : List D)
  deriving Inhabited
/-- a shared object -/
inductive O where
  | lst (xs : List D) | dct (kvs : List (Key × D)) | ins (c : Str) (fs : List (Str × D))
  deriving Inhabited
/-- what stands in a slot -/
inductive Sl where
  | none | d (x : D) | own (c : Cn) | bor (c : Cn)
  deriving Inhabited
/-- what an expression gives: data, a new container, a container that is another's -/
inductive R where
  | d (x : D) | new (c : Cn) | bor (c : Cn)
  deriving Inhabited
abbrev Env' := List Sl
abbrev Hs := List O
/-- the end of an expression -/
inductive Rs (α : Type) where
  | ok (a : α) (h : Hs) | exc (c : Str) (h : Hs)
/-- the end of a statement -/
inductive Out where
  | nx (S : Env') (h : Hs) | ret (r : R) (h : Hs) | brk (S : Env') (h : Hs) | ct (S : Env') (h : Hs) | exc (c : Str) (S : Env') (h : Hs)
abbrev EX := Env' → Hs → Option (Rs R)
abbrev TX := Env' → Hs → Option (Rs Bool)
abbrev AX := Env' → Hs → Option (Rs (List R))
abbrev SX := Env' → Hs → Option Out

section
variable (K : PySem.W.Frag) (ρ : List Addr) (H : Hp)
mutual
inductive DV : V → D → Prop where
  | non : DV .non .non
  | bl (b : Bool) : DV (.bl b) (.bl b)
  | int (i : Int) : DV (.int i) (.int i)
  | str (x : Str) : DV (.str x) (.str x)
  | ty (n : String) : DV (.ty n) (.ty n)
  | tup {a : Addr} {vs : List V} {ds : List D} (h : SqT K H a vs) (r : DVs vs ds) : DV (.ref a) (.tup ds)
  | ref {j : Nat} {a : Addr} (h : ρ[j]? = some a) : DV (.ref a) (.ref j)
inductive DVs : List V → List D → Prop where
  | nil : DVs [] []
  | cons {v : V} {d : D} {vs : List V} {ds : List D} (h : DV v d) (r : DVs vs ds) : DVs (v :: vs) (d :: ds)
end
end

section
variable {K : PySem.W.Frag} {ρ ρ' : List Addr} {H H' : Hp}
theorem DVs.length : ∀ {vs : List V} {ds : List D}, DVs K ρ H vs ds → vs.length = ds.length
  | _, _, .nil => rfl
  | _, _, .cons _ r => by rw [List.length_cons, List.length_cons, DVs.length r]
mutual
theorem DV.mono (ht : ∀ a vs, SqT K H a vs → SqT K H' a vs) (hr : ∀ (j : Nat) a, ρ[j]? = some a → ρ'[j]? = some a) : ∀ {v : V} {d : D}, DV K ρ H v d → DV K ρ' H' v d
  | _, _, .non => .non
  | _, _, .bl b => .bl b
  | _, _, .int i => .int i
  | _, _, .str x => .str x
  | _, _, .ty n => .ty n
  | _, _, .tup h r => .tup (ht _ _ h) (DVs.mono ht hr r)
  | _, _, .ref h => .ref (hr _ _ h)
theorem DVs.mono (ht : ∀ a vs, SqT K H a vs → SqT K H' a vs) (hr : ∀ (j : Nat) a, ρ[j]? = some a → ρ'[j]? = some a) : ∀ {vs : List V} {ds : List D}, DVs K ρ H vs ds → DVs K ρ' H' vs ds
  | _, _, .nil => .nil
  | _, _, .cons h r => .cons (DV.mono ht hr h) (DVs.mono ht hr r)
end
theorem DVs.get : ∀ {vs : List V} {ds : List D} {i : Nat} {v : V}, DVs K ρ H vs ds → vs[i]? = some v → ∃ d, ds[i]? = some d ∧ DV K ρ H v d
  | _, _, _, _, .nil, e => by simp at e
  | _, _, 0, _, .cons h _, e => by simp at e; subst e; exact ⟨_, rfl, h⟩
  | _, _, i + 1, v, .cons _ r, e => by
    obtain ⟨d, e1, e2⟩ := DVs.get (i := i) (v := v) r (by simpa using e)
    exact ⟨d, by simpa using e1, e2⟩
theorem DVs.get' : ∀ {vs : List V} {ds : List D} {i : Nat} {d : D}, DVs K ρ H vs ds → ds[i]? = some d → ∃ v, vs[i]? = some v ∧ DV K ρ H v d
  | _, _, _, _, .nil, e => by simp at e
  | _, _, 0, _, .cons h _, e => by simp at e; subst e; exact ⟨_, rfl, h⟩
  | _, _, i + 1, d, .cons _ r, e => by
    obtain ⟨v, e1, e2⟩ := DVs.get' (i := i) (d := d) r (by simpa using e)
    exact ⟨v, by simpa using e1, e2⟩
theorem DVs.append : ∀ {vs ws : List V} {ds es : List D}, DVs K ρ H vs ds → DVs K ρ H ws es → DVs K ρ H (vs ++ ws) (ds ++ es)
  | _, _, _, _, .nil, s => s
  | _, _, _, _, .cons h r, s => .cons h (DVs.append r s)
theorem DVs.take : ∀ {vs : List V} {ds : List D} (n : Nat), DVs K ρ H vs ds → DVs K ρ H (vs.take n) (ds.take n)
  | _, _, 0, _ => .nil
  | _, _, _ + 1, .nil => .nil
  | _, _, n + 1, .cons h r => .cons h (DVs.take n r)
theorem DVs.drop : ∀ {vs : List V} {ds : List D} (n : Nat), DVs K ρ H vs ds → DVs K ρ H (vs.drop n) (ds.drop n)
  | _, _, 0, r => r
  | _, _, _ + 1, .nil => .nil
  | _, _, n + 1, .cons _ r => DVs.drop n r
theorem DVs.set {v : V} {d : D} (q : DV K ρ H v d) : ∀ {vs : List V} {ds : List D} (i : Nat), DVs K ρ H vs ds → DVs K ρ H (vs.set i v) (ds.set i d)
  | _, _, _, .nil => .nil
  | _, _, 0, .cons _ r => .cons q r
  | _, _, i + 1, .cons h r => .cons h (DVs.set q i r)
theorem DVs.reverse {vs : List V} {ds : List D} (r : DVs K ρ H vs ds) : DVs K ρ H vs.reverse ds.reverse := by
  induction vs generalizing ds with
  | nil => cases r; exact .nil
  | cons v vs ih =>
    cases r with
    | cons h r => rw [List.reverse_cons, List.reverse_cons]; exact (ih r).append (.cons h .nil)
theorem DVs.repl {v : V} {d : D} (q : DV K ρ H v d) : ∀ n : Nat, DVs K ρ H (List.replicate n v) (List.replicate n d)
  | 0 => .nil
  | n + 1 => .cons q (DVs.repl q n)
end

/-- keys and values -/
def KD (K : PySem.W.Frag) (ρ : List Addr) (H : Hp) (ks : List (Key × V)) (kd : List (Key × D)) : Prop := ks.map (·.1) = kd.map (·.1) ∧ DVs K ρ H (ks.map (·.2)) (kd.map (·.2))
def FD (K : PySem.W.Frag) (ρ : List Addr) (H : Hp) (ks : List (Str × V)) (kd : List (Str × D)) : Prop := ks.map (·.1) = kd.map (·.1) ∧ DVs K ρ H (ks.map (·.2)) (kd.map (·.2))
/-- a container that may be changed stands at a -/
def CM (K : PySem.W.Frag) (ρ : List Addr) (H : Hp) (a : Addr) : Cn → Prop
  | .lst ds => ∃ vs, H a = some (.lst vs) ∧ DVs K ρ H vs ds
  | .dct kd => ∃ ks, H a = some (.dK ks) ∧ KD K ρ H ks kd
  | .fz _ => False
/-- the containers' names -/
structure Pm where
  K : PySem.W.Frag
  T : List (Addr × Str)
  cad : Str → Addr
def OM (p : Pm) (ρ : List Addr) (H : Hp) (a : Addr) : O → Prop
  | .lst ds => ∃ vs, H a = some (.lst vs) ∧ DVs p.K ρ H vs ds
  | .dct kd => ∃ ks, H a = some (.dK ks) ∧ KD p.K ρ H ks kd
  | .ins c fs => ∃ dx gs, H a = some (.ins (p.cad c) dx gs) ∧ FD p.K ρ H gs fs
/-- a kind that may change -/
def MutO : HO → Prop
  | .lst _ => True
  | .dK _ => True
  | .ins _ _ _ => True
  | _ => False
theorem CM.mut {K : PySem.W.Frag} {ρ : List Addr} {H : Hp} {a : Addr} {c : Cn} (h : CM K ρ H a c) : ∃ o, H a = some o ∧ MutO o := by
  cases c with
  | lst ds => obtain ⟨vs, e, _⟩ := h; exact ⟨_, e, trivial⟩
  | dct kd => obtain ⟨vs, e, _⟩ := h; exact ⟨_, e, trivial⟩
  | fz ds => exact h.elim
theorem OM.mut {p : Pm} {ρ : List Addr} {H : Hp} {a : Addr} {o : O} (h : OM p ρ H a o) : ∃ u, H a = some u ∧ MutO u := by
  cases o with
  | lst ds => obtain ⟨vs, e, _⟩ := h; exact ⟨_, e, trivial⟩
  | dct kd => obtain ⟨vs, e, _⟩ := h; exact ⟨_, e, trivial⟩
  | ins c fs => obtain ⟨dx, gs, e, _⟩ := h; exact ⟨_, e, trivial⟩

/-- the shared objects stand -/
structure HR (p : Pm) (ρ : List Addr) (h : Hs) (H : Hp) : Prop where
  len : ρ.length = h.length
  nd : ρ.Nodup
  ob : ∀ (j : Nat) a o, ρ[j]? = some a → h[j]? = some o → OM p ρ H a o
theorem HR.mut {p : Pm} {ρ : List Addr} {h : Hs} {H : Hp} (r : HR p ρ h H) {a : Addr} (ha : a ∈ ρ) : ∃ u, H a = some u ∧ MutO u := by
  obtain ⟨j, hj, e⟩ := List.getElem_of_mem ha
  have hj' : j < h.length := by rw [← r.len]; exact hj
  exact (r.ob j a _ (by rw [List.getElem?_eq_getElem hj, e]) (List.getElem?_eq_getElem hj')).mut

theorem HR.free {p : Pm} {ρ : List Addr} {h : Hs} {H : Hp} (r : HR p ρ h H) {a : Addr} (hn : H a = none) : a ∉ ρ := fun m => by
  obtain ⟨u, e, _⟩ := r.mut m
  rw [hn] at e; cases e
def NoTbl (o : HO) : Prop := ∀ ps, o ≠ .tbl ps
theorem tbl_or {o : HO} (h : ¬ NoTbl o) : ∃ ps, o = .tbl ps := by
  cases o with
  | tbl ps => exact ⟨ps, rfl⟩
  | _ => exact absurd (fun ps z => by cases z) h
theorem MutO.noTbl {o : HO} (h : MutO o) : NoTbl o := fun ps z => by subst z; exact h
/-- from one moment to a later one, no local container written -/
structure Nx (p : Pm) (ρ : List Addr) (H : Hp) (ρ' : List Addr) (h' : Hs) (H' : Hp) : Prop where
  pre : ρ <+: ρ'
  hr : HR p ρ' h' H'
  fr : ∀ a o, H a = some o → NoTbl o → a ∉ ρ → H' a = some o
  nw : ∀ a ∈ ρ', a ∈ ρ ∨ H a = none
  tk : ∀ a ps, H a = some (.tbl ps) → ∃ qs, H' a = some (.tbl qs)
  tb : LamX.Tabs p.T H'
section
variable {p : Pm} {ρ ρ1 ρ2 : List Addr} {h h1 h2 : Hs} {H H1 H2 : Hp}
theorem pre_get {ρ ρ' : List Addr} (e : ρ <+: ρ') {j : Nat} {a : Addr} (q : ρ[j]? = some a) : ρ'[j]? = some a := by
  obtain ⟨t, rfl⟩ := e
  have hj := (List.getElem?_eq_some_iff.mp q).1
  rw [List.getElem?_append_left hj]; exact q
theorem Nx.refl (hr : HR p ρ h H) (tb : LamX.Tabs p.T H) : Nx p ρ H ρ h H := ⟨List.prefix_refl _, hr, fun _ _ e _ _ => e, fun _ m => .inl m, fun _ ps e => ⟨ps, e⟩, tb⟩
theorem Nx.trans (a : Nx p ρ H ρ1 h1 H1) (b : Nx p ρ1 H1 ρ2 h2 H2) : Nx p ρ H ρ2 h2 H2 where
  pre := a.pre.trans b.pre
  hr := b.hr
  fr := fun x o e nt nx => b.fr x o (a.fr x o e nt nx) nt fun m => (a.nw x m).elim nx fun z => by rw [e] at z; cases z
  nw := fun x m => by
    rcases b.nw x m with m1 | z
    · exact a.nw x m1
    · by_cases hx : x ∈ ρ
      · exact .inl hx
      · refine .inr ?_
        cases q : H x with
        | none => rfl
        | some o =>
          by_cases nt : NoTbl o
          · rw [a.fr x o q nt hx] at z; cases z
          · obtain ⟨ps, rfl⟩ := tbl_or nt
            obtain ⟨qs, e⟩ := a.tk x ps q
            rw [e] at z; cases z
  tk := fun x ps e => by
    obtain ⟨qs, e1⟩ := a.tk x ps e
    exact b.tk x qs e1
  tb := b.tb
/-- what is tracked stays tracked -/
theorem Nx.old (n : Nx p ρ H ρ1 h1 H1) {a : Addr} (z : H1 a = none) (hr : HR p ρ h H) : H a = none := by
  cases q : H a with
  | none => rfl
  | some o =>
    by_cases nt : NoTbl o
    · by_cases hx : a ∈ ρ
      · obtain ⟨u, e, _⟩ := n.hr.mut (n.pre.subset hx)
        rw [z] at e; cases e
      · rw [n.fr a o q nt hx] at z; cases z
    · obtain ⟨ps, rfl⟩ := tbl_or nt
      obtain ⟨qs, e⟩ := n.tk a ps q
      rw [e] at z; cases z
/-- what may be read and is no shared object -/
theorem rd_not {hr : HR p ρ h H} {a : Addr} {o u : HO} (e : H a = some o) (m : ¬ MutO o) : a ∉ ρ := fun hx => by
  obtain ⟨w, e1, e2⟩ := hr.mut hx
  rw [e] at e1; cases e1; exact m e2
theorem Nx.tup (n : Nx p ρ H ρ1 h1 H1) (hr : HR p ρ h H) {a : Addr} {vs : List V} (q : SqT p.K H a vs) : SqT p.K H1 a vs := by
  rcases q with (q | ⟨o, q⟩) | q
  · exact .inl (.inl (n.fr a _ q (fun _ z => nomatch z) (rd_not (hr := hr) (u := .tup vs) q (fun z => z))))
  · exact .inl (.inr ⟨o, n.fr a _ q (fun _ z => nomatch z) (rd_not (hr := hr) (u := .tup vs) q (fun z => z))⟩)
  · exact .inr q
theorem Nx.lst (n : Nx p ρ H ρ1 h1 H1) {a : Addr} {vs : List V} (q : SqL p.K H a vs) (ha : a ∉ ρ) : SqL p.K H1 a vs := by
  rcases q with (q | ⟨o, q⟩) | q
  · exact .inl (.inl (n.fr a _ q (fun _ z => nomatch z) ha))
  · exact .inl (.inr ⟨o, n.fr a _ q (fun _ z => nomatch z) ha⟩)
  · exact .inr q
theorem Nx.dv (n : Nx p ρ H ρ1 h1 H1) (hr : HR p ρ h H) {v : V} {d : D} (q : DV p.K ρ H v d) : DV p.K ρ1 H1 v d := q.mono (fun _ _ z => n.tup hr z) fun _ _ z => pre_get n.pre z
theorem Nx.dvs (n : Nx p ρ H ρ1 h1 H1) (hr : HR p ρ h H) {v : List V} {d : List D} (q : DVs p.K ρ H v d) : DVs p.K ρ1 H1 v d := q.mono (fun _ _ z => n.tup hr z) fun _ _ z => pre_get n.pre z
theorem Nx.cm (n : Nx p ρ H ρ1 h1 H1) (hr : HR p ρ h H) {a : Addr} {c : Cn} (q : CM p.K ρ H a c) (ha : a ∉ ρ) : CM p.K ρ1 H1 a c := by
  cases c with
  | lst ds => obtain ⟨vs, e, r⟩ := q; exact ⟨vs, n.fr a _ e (fun _ z => nomatch z) ha, n.dvs hr r⟩
  | dct kd => obtain ⟨ks, e, r1, r2⟩ := q; exact ⟨ks, n.fr a _ e (fun _ z => nomatch z) ha, r1, n.dvs hr r2⟩
  | fz ds => exact q.elim
theorem Nx.fresh (n : Nx p ρ H ρ1 h1 H1) {a : Addr} (hn : H a = some o) (ha : a ∉ ρ) : a ∉ ρ1 := fun m => (n.nw a m).elim ha fun z => by rw [hn] at z; cases z
end

/-- a list of the written part -/
def KL (K : PySem.W.Frag) (a : Addr) (xs : List V) : Prop := ∃ (o : Obj) (its : Array Value) (n : Nat), K.lookup a = some o ∧ o.cls = .type "list" ∧ o.dict = none ∧ o.data = .seq its n ∧ its.size ≤ sizeLine ∧ Vals xs its.toList
/-- a container that may be read stands at a -/
def BR (p : Pm) (ρ : List Addr) (H : Hp) (kn : Addr → Prop) (a : Addr) : Cn → Prop
  | .lst ds => ∃ vs, DVs p.K ρ H vs ds ∧ H a = some (.lst vs) ∧ a ∉ ρ ∧ kn a
  | .dct kd => ∃ ks, KD p.K ρ H ks kd ∧ H a = some (.dK ks) ∧ a ∉ ρ ∧ kn a
  | .fz ds => ∃ vs, DVs p.K ρ H vs ds ∧ (KL p.K a vs ∨ ((∃ o, H a = some (.frz o (.lst vs))) ∧ a ∉ ρ ∧ kn a))
theorem BR.imp {p : Pm} {ρ : List Addr} {H : Hp} {kn kn' : Addr → Prop} {a : Addr} {c : Cn} (h : BR p ρ H kn a c) (i : kn a → kn' a) : BR p ρ H kn' a c := by
  cases c with
  | lst ds =>
    obtain ⟨ks, r, q1, q2, q3⟩ := h
    exact ⟨ks, r, q1, q2, i q3⟩
  | dct kd =>
    obtain ⟨ks, r, q1, q2, q3⟩ := h
    exact ⟨ks, r, q1, q2, i q3⟩
  | fz ds =>
    obtain ⟨vs, r, q⟩ := h
    exact ⟨vs, r, q.imp id fun z => ⟨z.1, z.2.1, i z.2.2⟩⟩
theorem CM.br {p : Pm} {ρ : List Addr} {H : Hp} {kn : Addr → Prop} {a : Addr} {c : Cn} (h : CM p.K ρ H a c) (na : a ∉ ρ) (k : kn a) : BR p ρ H kn a c := by
  cases c with
  | lst ds => obtain ⟨vs, e, r⟩ := h; exact ⟨vs, r, e, na, k⟩
  | dct kd => obtain ⟨vs, e, r⟩ := h; exact ⟨vs, r, e, na, k⟩
  | fz ds => exact h.elim
theorem Nx.rd {p : Pm} {ρ ρ1 : List Addr} {h1 : Hs} {H H1 : Hp} (n : Nx p ρ H ρ1 h1 H1) {a : Addr} {u : HO} (q : Rd H a u) (hu : NoTbl u) (ha : a ∉ ρ) : Rd H1 a u ∧ a ∉ ρ1 := by
  rcases q with q | ⟨o, q⟩
  · exact ⟨.inl (n.fr a _ q hu ha), n.fresh q ha⟩
  · exact ⟨.inr ⟨o, n.fr a _ q (fun _ z => nomatch z) ha⟩, n.fresh q ha⟩
theorem Nx.br {p : Pm} {ρ ρ1 : List Addr} {h h1 : Hs} {H H1 : Hp} (n : Nx p ρ H ρ1 h1 H1) (hr : HR p ρ h H) {kn : Addr → Prop} {a : Addr} {c : Cn} (q : BR p ρ H kn a c) : BR p ρ1 H1 kn a c := by
  cases c with
  | lst ds =>
    obtain ⟨ks, r, e, na, k⟩ := q
    exact ⟨ks, n.dvs hr r, n.fr a _ e (fun _ z => nomatch z) na, n.fresh e na, k⟩
  | dct kd =>
    obtain ⟨ks, ⟨r1, r2⟩, e, na, k⟩ := q
    exact ⟨ks, ⟨r1, n.dvs hr r2⟩, n.fr a _ e (fun _ z => nomatch z) na, n.fresh e na, k⟩
  | fz ds =>
    obtain ⟨vs, r, q | ⟨⟨o, q1⟩, q2, q3⟩⟩ := q
    · exact ⟨vs, n.dvs hr r, .inl q⟩
    · exact ⟨vs, n.dvs hr r, .inr ⟨⟨o, n.fr a _ q1 (fun _ z => nomatch z) q2⟩, n.fresh q1 q2, q3⟩⟩
/-- known since the entry, or held -/
def Kn (G : List (Addr × HO)) (H0 : Hp) (a : Addr) : Prop := H0 a ≠ none ∨ ∃ q ∈ G, q.1 = a
/-- a slot -/
def SV (p : Pm) (ρ : List Addr) (G : List (Addr × HO)) (H0 H : Hp) : Sl → Option V → Prop
  | .none, _ => True
  | .d x, o => ∃ v, o = some v ∧ DV p.K ρ H v x
  | .own c, o => ∃ a, o = some (.ref a) ∧ CM p.K ρ H a c ∧ H0 a = none ∧ a ∉ ρ ∧ ∀ q ∈ G, q.1 ≠ a
  | .bor c, o => ∃ a, o = some (.ref a) ∧ BR p ρ H (Kn G H0) a c
def isOwn : Sl → Bool
  | .own _ => true
  | _ => false
/-- the state: slots, shared objects; ρ0, H0: at the def's entry; G: what loops hold -/
structure Stt (p : Pm) (ρ0 : List Addr) (H0 : Hp) (G : List (Addr × HO)) (ρ : List Addr) (S : Env') (h : Hs) (σ : L2.St) (H : Hp) : Prop where
  hr : HR p ρ h H
  tb : LamX.Tabs p.T H
  pre : ρ0 <+: ρ
  fr : ∀ a o, H0 a = some o → NoTbl o → a ∉ ρ → H a = some o
  nw : ∀ a ∈ ρ, a ∈ ρ0 ∨ H0 a = none
  tk : ∀ a ps, H0 a = some (.tbl ps) → ∃ qs, H a = some (.tbl qs)
  gh : ∀ q ∈ G, H q.1 = some q.2 ∧ NoTbl q.2 ∧ q.1 ∉ ρ
  len : S.length = σ.length
  sl : ∀ (i : Nat) s, S[i]? = some s → ∃ o, σ[i]? = some o ∧ SV p ρ G H0 H s o
  ap : ∀ (i j : Nat) s t a, i ≠ j → S[i]? = some s → S[j]? = some t → isOwn s = true → isOwn t = true → σ[i]? = some (some (V.ref a)) → σ[j]? ≠ some (some (V.ref a))
section
variable {p : Pm} {ρ0 ρ ρ1 ρ2 : List Addr} {G : List (Addr × HO)} {S : Env'} {σ : L2.St} {h h1 h2 : Hs} {H0 H H1 H2 : Hp}
/-- what is not tracked now was not at the entry -/
theorem Stt.old (s : Stt p ρ0 H0 G ρ S h σ H) {a : Addr} (z : H a = none) : H0 a = none ∧ a ∉ ρ ∧ (∀ q ∈ G, q.1 ≠ a) := by
  have na : a ∉ ρ := fun m => by
    obtain ⟨u, e, _⟩ := s.hr.mut m
    rw [z] at e; cases e
  refine ⟨?_, na, fun q hq e => ?_⟩
  · cases q : H0 a with
    | none => rfl
    | some o =>
      by_cases nt : NoTbl o
      · rw [s.fr a o q nt na] at z; cases z
      · obtain ⟨ps, rfl⟩ := tbl_or nt
        obtain ⟨qs, e⟩ := s.tk a ps q
        rw [z] at e; cases e
  · have := (s.gh q hq).1
    rw [e, z] at this; cases this
theorem SV.nx {G : List (Addr × HO)} {H0 : Hp} (n : Nx p ρ H ρ1 h1 H1) (hr : HR p ρ h H) {s : Sl} {o : Option V} (v : SV p ρ G H0 H s o) : SV p ρ1 G H0 H1 s o := by
  cases s with
  | none => trivial
  | d x => obtain ⟨v, e, r⟩ := v; exact ⟨v, e, n.dv hr r⟩
  | own c =>
    obtain ⟨a, e, r, z, na, g⟩ := v
    obtain ⟨u, e1, _⟩ := r.mut
    exact ⟨a, e, n.cm hr r na, z, n.fresh e1 na, g⟩
  | bor c =>
    obtain ⟨a, e, r⟩ := v
    exact ⟨a, e, n.br hr r⟩
/-- an expression has run -/
theorem Stt.nx (s : Stt p ρ0 H0 G ρ S h σ H) (n : Nx p ρ H ρ1 h1 H1) : Stt p ρ0 H0 G ρ1 S h1 σ H1 where
  hr := n.hr
  tb := n.tb
  pre := s.pre.trans n.pre
  fr := fun a o e nt na => n.fr a o (s.fr a o e nt fun m => na (n.pre.subset m)) nt fun m => na (n.pre.subset m)
  nw := fun a m => by
    rcases n.nw a m with m | z
    · exact s.nw a m
    · exact .inr (s.old z).1
  tk := fun a ps e => by
    obtain ⟨qs, e1⟩ := s.tk a ps e
    exact n.tk a qs e1
  gh := fun q hq => by
    obtain ⟨e, nt, na⟩ := s.gh q hq
    exact ⟨n.fr _ _ e nt na, nt, n.fresh e na⟩
  len := s.len
  sl := fun i sl hs => by
    obtain ⟨o, e, v⟩ := s.sl i sl hs
    exact ⟨o, e, v.nx n s.hr⟩
  ap := s.ap
end

/-! ### what an expression gives, as it stands -/
def RV (p : Pm) (ρ : List Addr) (Hb H : Hp) : V → R → Prop
  | v, .d x => DV p.K ρ H v x
  | v, .new c => ∃ a, v = .ref a ∧ Hb a = none ∧ a ∉ ρ ∧ CM p.K ρ H a c
  | v, .bor c => ∃ a, v = .ref a ∧ BR p ρ H (fun _ => True) a c
inductive RVs (p : Pm) (ρ : List Addr) (Hb H : Hp) : List V → List R → Prop where
  | nil : RVs p ρ Hb H [] []
  | cons {v : V} {r : R} {vs : List V} {rs : List R} (h : RV p ρ Hb H v r) (t : RVs p ρ Hb H vs rs) : RVs p ρ Hb H (v :: vs) (r :: rs)
section
variable {p : Pm} {ρ ρ1 ρ2 : List Addr} {h h1 h2 : Hs} {Hb H H1 H2 : Hp}
theorem RV.nx (n : Nx p ρ H ρ1 h1 H1) (hr : HR p ρ h H) {v : V} {r : R} (q : RV p ρ Hb H v r) : RV p ρ1 Hb H1 v r := by
  cases r with
  | d x => exact n.dv hr q
  | new c =>
    obtain ⟨a, e, z, na, m⟩ := q
    obtain ⟨u, e1, _⟩ := m.mut
    exact ⟨a, e, z, n.fresh e1 na, n.cm hr m na⟩
  | bor c => obtain ⟨a, e, m⟩ := q; exact ⟨a, e, n.br hr m⟩
theorem RV.back (n : Nx p ρ H ρ1 h1 H1) (hr : HR p ρ h H) {ρ' : List Addr} {H' : Hp} {v : V} {r : R} (q : RV p ρ' H1 H' v r) : RV p ρ' H H' v r := by
  cases r with
  | d x => exact q
  | new c => obtain ⟨a, e, z, na, m⟩ := q; exact ⟨a, e, n.old z hr, na, m⟩
  | bor c => exact q
theorem RVs.nx (n : Nx p ρ H ρ1 h1 H1) (hr : HR p ρ h H) : ∀ {vs : List V} {rs : List R}, RVs p ρ Hb H vs rs → RVs p ρ1 Hb H1 vs rs
  | _, _, .nil => .nil
  | _, _, .cons a t => .cons (a.nx n hr) (RVs.nx n hr t)
theorem RVs.back (n : Nx p ρ H ρ1 h1 H1) (hr : HR p ρ h H) {ρ' : List Addr} {H' : Hp} : ∀ {vs : List V} {rs : List R}, RVs p ρ' H1 H' vs rs → RVs p ρ' H H' vs rs
  | _, _, .nil => .nil
  | _, _, .cons a t => .cons (a.back n hr) (RVs.back n hr t)
theorem RVs.length : ∀ {vs : List V} {rs : List R}, RVs p ρ Hb H vs rs → vs.length = rs.length
  | _, _, .nil => rfl
  | _, _, .cons _ t => by rw [List.length_cons, List.length_cons, RVs.length t]
end
/-- the parts of a claim: tables, classes, the entry, what is wished of an exception -/
structure Cc where
  T : List (Addr × Str)
  cad : Str → Addr
  ρ0 : List Addr
  H0 : Hp
  W : WX
abbrev Cc.p (c : Cc) (K : PySem.W.Frag) : Pm := ⟨K, c.T, c.cad⟩
/-- an end of a computation that gives an α, told by rel as a β -/
def Ed {α β : Type} (p : Pm) (W : XK) (ρ : List Addr) (H : Hp) (o : Option (Rs α)) (rel : List Addr → Hp → Hp → β → α → Prop) (Q : β → Hp → Prop) : Prop :=
  match o with
  | none => False
  | some (.ok a h') => ∀ ρ' H' v, Nx p ρ H ρ' h' H' → rel ρ' H H' v a → Q v H'
  | some (.exc c h') => ∀ ρ' H', Nx p ρ H ρ' h' H' → W (.ref (p.cad c)) none H'
abbrev Bl : List Addr → Hp → Hp → Bool → Bool → Prop := fun _ _ _ b a => b = a
def tE (K : PySem.W.Frag) (c : Cc) (f : EX) : TE := fun σ H Q => ∃ G ρ S h, Stt (c.p K) c.ρ0 c.H0 G ρ S h σ H ∧ Ed (c.p K) (fun cls d H' => c.W cls d σ H') ρ H (f S h) (RV (c.p K)) Q
def tT (K : PySem.W.Frag) (c : Cc) (f : TX) : TT := fun σ H Q => ∃ G ρ S h, Stt (c.p K) c.ρ0 c.H0 G ρ S h σ H ∧ Ed (c.p K) (fun cls d H' => c.W cls d σ H') ρ H (f S h) Bl Q
def tA (K : PySem.W.Frag) (c : Cc) (f : AX) : TA := fun σ H Q => ∃ G ρ S h, Stt (c.p K) c.ρ0 c.H0 G ρ S h σ H ∧ Ed (c.p K) (fun cls d H' => c.W cls d σ H') ρ H (f S h) (RVs (c.p K)) Q
abbrev CE (X : Cx) (c : Cc) (e : Expr) (f : EX) : Prop := PE X e (tE X.K c f)
abbrev CT (X : Cx) (c : Cc) (e : Expr) (f : TX) : Prop := PT X e (tT X.K c f)
abbrev CA (X : Cx) (c : Cc) (es : List Expr) (f : AX) : Prop := PA X es (tA X.K c f)

/-! ### joining -/
/-- the first, then the rest from what it gave -/
def andThen {α β : Type} (o : Option (Rs α)) (k : α → Hs → Option (Rs β)) : Option (Rs β) :=
  match o with
  | none => none
  | some (.ok a h) => k a h
  | some (.exc c h) => some (.exc c h)
theorem Ed.bind {α β γ δ : Type} {p : Pm} {W : XK} {ρ : List Addr} {H : Hp} {o : Option (Rs α)} {k : α → Hs → Option (Rs γ)} {rel : List Addr → Hp → Hp → β → α → Prop} {rel2 : List Addr → Hp → Hp → δ → γ → Prop} {Q : δ → Hp → Prop} {Q1 : β → Hp → Prop}
    (e : Ed p W ρ H (andThen o k) rel2 Q)
    (hk : ∀ a h1 ρ1 H1 v, Nx p ρ H ρ1 h1 H1 → rel ρ1 H H1 v a → Ed p W ρ H (k a h1) rel2 Q → Q1 v H1) : Ed p W ρ H o rel Q1 := by
  cases o with
  | none => exact e
  | some r =>
    cases r with
    | ok a h1 => exact fun ρ1 H1 v n q => hk a h1 ρ1 H1 v n q e
    | exc c h1 => exact e
/-- from a later moment -/
theorem Ed.later {α β : Type} {p : Pm} {W : XK} {ρ ρ1 : List Addr} {h1 : Hs} {H H1 : Hp} {o : Option (Rs α)} {rel : List Addr → Hp → Hp → β → α → Prop} {Q : β → Hp → Prop} (e : Ed p W ρ H o rel Q) (n : Nx p ρ H ρ1 h1 H1)
    (hb : ∀ ρ' H' v a, rel ρ' H1 H' v a → rel ρ' H H' v a) : Ed p W ρ1 H1 o rel Q := by
  cases o with
  | none => exact e
  | some r =>
    cases r with
    | ok a h2 => exact fun ρ' H' v n2 q => e ρ' H' v (n.trans n2) (hb _ _ _ _ q)
    | exc c h2 => exact fun ρ' H' n2 => e ρ' H' (n.trans n2)
theorem Ed.bindAt {α β γ δ : Type} {p : Pm} {W : XK} {ρ ρ1 : List Addr} {h1 : Hs} {H H1 : Hp} {o : Option (Rs α)} {k : α → Hs → Option (Rs γ)} {rel : List Addr → Hp → Hp → β → α → Prop} {rel2 : List Addr → Hp → Hp → δ → γ → Prop} {Q : δ → Hp → Prop} {Q1 : β → Hp → Prop}
    (e : Ed p W ρ H (andThen o k) rel2 Q) (n1 : Nx p ρ H ρ1 h1 H1)
    (hk : ∀ a h2 ρ2 H2 v, Nx p ρ1 H1 ρ2 h2 H2 → rel ρ2 H1 H2 v a → Ed p W ρ H (k a h2) rel2 Q → Q1 v H2) : Ed p W ρ1 H1 o rel Q1 := by
  cases o with
  | none => exact e
  | some r =>
    cases r with
    | ok a h1 => exact fun ρ1 H1 v n q => hk a h1 ρ1 H1 v n q e
    | exc c h1 => exact fun ρ' H' n => e ρ' H' (n1.trans n)
end Sh
set_option Elab.async false
set_option linter.all false
set_option maxRecDepth 100000
namespace Sh
open PySem PySem.Spec PyProof.Rows L2

/-! ### steps of the abstract heap -/
section
variable {p : Pm} {ρ ρ1 : List Addr} {h h1 : Hs} {H H' H1 Hb : Hp}
/-- all that is tracked stays -/
def Ext (H H' : Hp) : Prop := ∀ a o, H a = some o → H' a = some o
theorem Ext.new {q : Addr} {o : HO} (hq : H q = none) : Ext H (upd H q o) := fun a u e => by rw [upd_ne (ne_of_none e hq)]; exact e
theorem Ext.sqt {K : PySem.W.Frag} (e : Ext H H') {a : Addr} {vs : List V} (q : SqT K H a vs) : SqT K H' a vs := by
  rcases q with (q | ⟨o, q⟩) | q
  · exact .inl (.inl (e _ _ q))
  · exact .inl (.inr ⟨o, e _ _ q⟩)
  · exact .inr q
theorem Ext.dv {K : PySem.W.Frag} (e : Ext H H') {v : V} {d : D} (q : DV K ρ H v d) : DV K ρ H' v d := q.mono (fun _ _ z => e.sqt z) fun _ _ z => z
theorem Ext.dvs {K : PySem.W.Frag} (e : Ext H H') {v : List V} {d : List D} (q : DVs K ρ H v d) : DVs K ρ H' v d := q.mono (fun _ _ z => e.sqt z) fun _ _ z => z
theorem OM.mono {a : Addr} {o : O} (e : Ext H H') (q : OM p ρ H a o) : OM p ρ H' a o := by
  cases o with
  | lst ds => obtain ⟨vs, x, r⟩ := q; exact ⟨vs, e _ _ x, e.dvs r⟩
  | dct kd => obtain ⟨vs, x, r1, r2⟩ := q; exact ⟨vs, e _ _ x, r1, e.dvs r2⟩
  | ins c fs => obtain ⟨dx, gs, x, r1, r2⟩ := q; exact ⟨dx, gs, e _ _ x, r1, e.dvs r2⟩
theorem Nx.ext (hr : HR p ρ h H) (tb : LamX.Tabs p.T H) (e : Ext H H') : Nx p ρ H ρ h H' where
  pre := List.prefix_refl _
  hr := ⟨hr.len, hr.nd, fun j a o h1 h2 => (hr.ob j a o h1 h2).mono e⟩
  fr := fun a o x _ _ => e a o x
  nw := fun _ m => .inl m
  tk := fun a ps x => ⟨ps, e _ _ x⟩
  tb := tb.ext e
theorem Nx.alloc (hr : HR p ρ h H) (tb : LamX.Tabs p.T H) {q : Addr} {o : HO} (hq : H q = none) : Nx p ρ H ρ h (upd H q o) := .ext hr tb (.new hq)
/-- an object that may change is written -/
theorem upd_sqt {K : PySem.W.Frag} {q : Addr} {u o : HO} (hq : H q = some u) (m : MutO u) {a : Addr} {vs : List V} (s : SqT K H a vs) : SqT K (upd H q o) a vs := by
  have ne : ∀ {w : HO}, H a = some w → ¬ MutO w → a ≠ q := fun e n z => by rw [z, hq] at e; cases e; exact n m
  rcases s with (s | ⟨o', s⟩) | s
  · exact .inl (.inl (by rw [upd_ne (ne s (fun z => z))]; exact s))
  · exact .inl (.inr ⟨o', by rw [upd_ne (ne s (fun z => z))]; exact s⟩)
  · exact .inr s
theorem upd_dv {K : PySem.W.Frag} {q : Addr} {u o : HO} (hq : H q = some u) (m : MutO u) {v : V} {d : D} (s : DV K ρ H v d) : DV K ρ (upd H q o) v d := s.mono (fun _ _ z => upd_sqt hq m z) fun _ _ z => z
theorem upd_dvs {K : PySem.W.Frag} {q : Addr} {u o : HO} (hq : H q = some u) (m : MutO u) {v : List V} {d : List D} (s : DVs K ρ H v d) : DVs K ρ (upd H q o) v d := s.mono (fun _ _ z => upd_sqt hq m z) fun _ _ z => z
end

/-! ### the rules' shape -/
section
variable {X : Cx} {c : Cc} {e a b : Expr} {fa fb : EX} {pos : Pos}
theorem pe_weak {t t' : TE} (he : PE X e t) (h : ∀ σ H Q, t' σ H Q → t σ H Q) : PE X e t' := ⟨fun pins s σ H Q I q => he.run pins s σ H Q I (h σ H Q q)⟩
theorem pt_weak {t t' : TT} (he : PT X e t) (h : ∀ σ H Q, t' σ H Q → t σ H Q) : PT X e t' := ⟨fun pins s σ H Q I q => he.run pins s σ H Q I (h σ H Q q)⟩
theorem pa_weak {es : List Expr} {t t' : TA} (he : PA X es t) (h : ∀ σ H Q, t' σ H Q → t σ H Q) : PA X es t' := ⟨fun ps pins s σ H Q I q => he.run ps pins s σ H Q I (h σ H Q q)⟩

/-- a value that a prim gives, the shared objects as they are -/
def Fin' (p : Pm) (ρ : List Addr) (h : Hs) (H : Hp) (o : Option R) (Q : VK) : Prop :=
  match o with
  | none => False
  | some z => ∀ H' v, Nx p ρ H ρ h H' → RV p ρ H H' v z → Q v H'
def lift {α : Type} (o : Option α) (h : Hs) : Option (Rs α) := match o with
  | none => none
  | some z => some (.ok z h)
theorem Ed.fin {p : Pm} {W : XK} {ρ : List Addr} {h : Hs} {H : Hp} {o : Option R} {Q : VK} (e : Ed p W ρ H (lift o h) (RV p) Q) : Fin' p ρ h H o Q := by
  cases o with
  | none => exact e
  | some z => exact fun H' v n r => e ρ H' v n r
/-- a two-place prim -/
abbrev P2f := R → R → Hs → Option R
def P2 (X : Cx) (c : Cc) (r : R2) (g : P2f) : Prop := ∀ ρ h H Ha Hb x y a b Q, HR (c.p X.K) ρ h H → LamX.Tabs c.T H → RV (c.p X.K) ρ Ha H x a → RV (c.p X.K) ρ Hb H y b → Fin' (c.p X.K) ρ h H (g a b h) Q → r x y H Q
abbrev P1f := R → Hs → Option R
def P1 (X : Cx) (c : Cc) (r : V → Hp → VK → Prop) (g : P1f) : Prop := ∀ ρ h H Ha x a Q, HR (c.p X.K) ρ h H → LamX.Tabs c.T H → RV (c.p X.K) ρ Ha H x a → Fin' (c.p X.K) ρ h H (g a h) Q → r x H Q
def op2 (g : P2f) (fa fb : EX) : EX := fun S h => andThen (fa S h) fun a h1 => andThen (fb S h1) fun b h2 => lift (g a b h2) h2
def op1 (g : P1f) (fa : EX) : EX := fun S h => andThen (fa S h) fun a h1 => lift (g a h1) h1

theorem RV.any {p : Pm} {ρ : List Addr} {Hb H : Hp} {v : V} {r : R} (q : RV p ρ Hb H v r) : RV p ρ Hb H v r := q
/-- two in a row, then what they come to -/
theorem tE_op {r : R2} {g : P2f} (hp : P2 X c r g) (σ : L2.St) (H : Hp) (Q : VK) (q : tE X.K c (op2 g fa fb) σ H Q) : tOp r (tE X.K c fa) (tE X.K c fb) σ H Q := by
  obtain ⟨G, ρ, S, h, s, e⟩ := q
  refine ⟨G, ρ, S, h, s, e.bind (rel := RV (c.p X.K)) fun a h1 ρ1 H1 x n1 rx e1 => ?_⟩
  have e1' := e1.later n1 fun _ _ _ _ z => z.back n1 s.hr
  refine ⟨G, ρ1, S, h1, s.nx n1, e1'.bind (rel := RV (c.p X.K)) fun b h2 ρ2 H2 y n2 ry e2 => ?_⟩
  have e2' := e2.later n2 fun _ _ _ _ z => z.back n2 n1.hr
  exact hp ρ2 h2 H2 _ _ x y a b Q n2.hr n2.tb (rx.nx n2 n1.hr) ry e2'.fin
theorem ce_op {op : Operator} {r : R2} {g : P2f} (ho : OpR X (binaryOp op) r) (hp : P2 X c r g) (ha : CE X c a fa) (hb : CE X c b fb) : CE X c (.BinOp a op b pos) (op2 g fa fb) :=
  pe_weak (pe_op ho ha hb) (tE_op hp)
theorem ce_cmp {op : CmpOp} {r : R2} {g : P2f} (ho : OpR X (compareOp op) r) (hp : P2 X c r g) (ha : CE X c a fa) (hb : CE X c b fb) (hm : behindInMarks op b = false) : CE X c (.Compare a [op] [b] pos) (op2 g fa fb) :=
  pe_weak (pe_cmpR ho ha hb hm) (tE_op hp)
theorem ce_un {op : UnaryOp} {r : V → Hp → VK → Prop} {g : P1f} (ho : UnR X (unaryOp op) r) (hp : P1 X c r g) (ha : CE X c a fa) : CE X c (.UnaryOp op a pos) (op1 g fa) := by
  refine pe_weak (pe_un ho ha) fun σ H Q q => ?_
  obtain ⟨G, ρ, S, h, s, e⟩ := q
  refine ⟨G, ρ, S, h, s, e.bind (rel := RV (c.p X.K)) fun a h1 ρ1 H1 x n1 rx e1 => ?_⟩
  exact hp ρ1 h1 H1 _ x a Q n1.hr n1.tb rx (e1.later n1 fun _ _ _ _ z => z.back n1 s.hr).fin
/-- a subscript -/
theorem ce_ix {r : R2} {g : P2f} (hr : IxR X r) (hp : P2 X c r g) (ha : CE X c a fa) (hb : CE X c b fb) (hs : PlainIx b := by exact fun _ _ => rfl) : CE X c (.Subscript a b pos) (op2 g fa fb) :=
  pe_weak (pe_ix hr ha hb hs) (tE_op hp)

/-! ### names, constants -/
def xVar (i : Nat) : EX := fun S h => match S[i]? with
  | some (.d x) => some (.ok (.d x) h)
  | some (.own k) => some (.ok (.bor k) h)
  | some (.bor k) => some (.ok (.bor k) h)
  | _ => none
def xC (d : D) : EX := fun _ h => some (.ok (.d d) h)
theorem ce_var {i : Nat} {x : Str} (hN : X.N[i]? = some x := by rfl) (hv : Vis X.env.scope x := by first | exact Or.inl rfl | exact Or.inr (Or.inl rfl) | exact Or.inr (Or.inr rfl)) (hd : (x == ("__debug__" : Str)) = false := by decide)
    (hcd : (x == ("__classdict__" : Str)) = false := by decide) : CE X c (.Name x pos) (xVar i) := by
  refine pe_weak (pe_var hN hv hd hcd) fun σ H Q q => ?_
  obtain ⟨G, ρ, S, h, s, e⟩ := q
  unfold xVar at e
  cases hS : S[i]? with
  | none => rw [hS] at e; exact e.elim
  | some sl =>
    rw [hS] at e
    obtain ⟨o, ho, v⟩ := s.sl i sl hS
    cases sl with
    | none => exact e.elim
    | d x =>
      obtain ⟨w, rfl, r⟩ := v
      exact ⟨w, ho, e ρ H w (.refl s.hr s.tb) r⟩
    | own k =>
      obtain ⟨w, rfl, r, _, na, _⟩ := v
      exact ⟨_, ho, e ρ H _ (.refl s.hr s.tb) ⟨w, rfl, r.br na trivial⟩⟩
    | bor k =>
      obtain ⟨w, rfl, r⟩ := v
      exact ⟨_, ho, e ρ H _ (.refl s.hr s.tb) ⟨w, rfl, r.imp fun _ => trivial⟩⟩
theorem ce_const {v : V} {d : D} (he : PE X e (tC v)) (hv : ∀ ρ H, DV X.K ρ H v d) : CE X c e (xC d) := by
  refine pe_weak he fun σ H Q q => ?_
  obtain ⟨G, ρ, S, h, s, e⟩ := q
  exact e ρ H v (.refl s.hr s.tb) (hv ρ H)
theorem ce_int {i : Int} {j : Nat} : CE X c (.Constant (.int i) j pos) (xC (.int i)) := ce_const pe_int fun _ _ => .int i
theorem ce_bl {i : Bool} {j : Nat} : CE X c (.Constant (.bool i) j pos) (xC (.bl i)) := ce_const pe_bl fun _ _ => .bl i
theorem ce_non {j : Nat} : CE X c (.Constant .none j pos) (xC .non) := ce_const pe_non fun _ _ => .non
theorem ce_str {i : Str} {j : Nat} : CE X c (.Constant (.str i) j pos) (xC (.str i)) := ce_const pe_str fun _ _ => .str i

/-! ### lists of expressions -/
def aNil : AX := fun _ h => some (.ok [] h)
def aCons (f : EX) (g : AX) : AX := fun S h => andThen (f S h) fun a h1 => andThen (g S h1) fun as h2 => some (.ok (a :: as) h2)
theorem ca_nil : CA X c [] aNil := by
  refine pa_weak pa_nil fun σ H Q q => ?_
  obtain ⟨G, ρ, S, h, s, e⟩ := q
  exact e ρ H [] (.refl s.hr s.tb) .nil
theorem ca_cons {es : List Expr} {f : EX} {g : AX} (ha : CE X c e f) (hr : CA X c es g) (hs : starEach (e :: es) X.env = (false, eval e X.env) :: starEach es X.env := by rfl) : CA X c (e :: es) (aCons f g) := by
  refine pa_weak (pa_cons ha hr hs) fun σ H Q q => ?_
  obtain ⟨G, ρ, S, h, s, e⟩ := q
  refine ⟨G, ρ, S, h, s, e.bind (rel := RV (c.p X.K)) fun a h1 ρ1 H1 x n1 rx e1 => ?_⟩
  refine ⟨G, ρ1, S, h1, s.nx n1, e1.bindAt n1 (rel := RVs (c.p X.K)) fun as h2 ρ2 H2 xs n2 rs e2 => ?_⟩
  exact e2 ρ2 H2 _ (n1.trans n2) (.cons (rx.nx n2 n1.hr) (rs.back n1 s.hr))
/-! ### tuples and lists written -/
/-- data alone -/
def dAll : List R → Option (List D)
  | [] => some []
  | .d x :: rs => match dAll rs with
    | some xs => some (x :: xs)
    | none => none
  | _ :: _ => none
theorem RVs.dvs {p : Pm} {ρ : List Addr} {Hb H : Hp} : ∀ {vs : List V} {rs : List R} {ds : List D}, RVs p ρ Hb H vs rs → dAll rs = some ds → DVs p.K ρ H vs ds
  | _, _, _, .nil, e => by
    cases e; exact .nil
  | _, _, ds, .cons (r := r) (rs := rs) h t, e => by
    cases r with
    | d x =>
      cases q : dAll rs with
      | none => simp only [dAll, q] at e; cases e
      | some xs =>
        simp only [dAll, q] at e; cases e
        exact .cons h (RVs.dvs t q)
    | new k => cases e
    | bor k => cases e
def xTup (g : AX) : EX := fun S h => andThen (g S h) fun rs h1 => match dAll rs with
  | some ds => if ds.length ≤ sizeLine then some (.ok (.d (.tup ds)) h1) else none
  | none => none
def xLst (g : AX) : EX := fun S h => andThen (g S h) fun rs h1 => match dAll rs with
  | some ds => if ds.length ≤ sizeLine then some (.ok (.new (.lst ds)) h1) else none
  | none => none
/-- a new object is handed on -/
theorem new_tup {p : Pm} {ρ : List Addr} {h : Hs} {H : Hp} {vs : List V} {ds : List D} {Q : VK} {z : Addr} (hr : HR p ρ h H) (tb : LamX.Tabs p.T H) (r : DVs p.K ρ H vs ds) (hz : H z = none)
    (e : Fin' p ρ h H (some (.d (.tup ds))) Q) : Q (.ref z) (upd H z (.tup vs)) :=
  e _ _ (.alloc hr tb hz) (.tup (SqT.of upd_same) ((Ext.new hz).dvs r))
theorem new_lst {p : Pm} {ρ : List Addr} {h : Hs} {H : Hp} {vs : List V} {ds : List D} {Q : VK} {z : Addr} (hr : HR p ρ h H) (tb : LamX.Tabs p.T H) (r : DVs p.K ρ H vs ds) (hz : H z = none)
    (e : Fin' p ρ h H (some (.new (.lst ds))) Q) : Q (.ref z) (upd H z (.lst vs)) :=
  e _ _ (.alloc hr tb hz) ⟨z, rfl, hz, hr.free hz, vs, upd_same, (Ext.new hz).dvs r⟩
theorem Ed.finE {p : Pm} {W : XK} {ρ ρ1 : List Addr} {h1 : Hs} {H H1 : Hp} {z : R} {Q : VK} {h : Hs} (e : Ed p W ρ H (some (.ok z h1)) (RV p) Q) (n : Nx p ρ H ρ1 h1 H1) (hr : HR p ρ h H) : Fin' p ρ1 h1 H1 (some z) Q :=
  fun H' v n2 r => e _ H' v (n.trans n2) (r.back n hr)
theorem ce_tup {es : List Expr} {g : AX} {k : Nat} (h : CA X c es g) : CE X c (.Tuple es k pos) (xTup g) := by
  refine pe_weak (pe_tup h) fun σ H Q q => ?_
  obtain ⟨G, ρ, S, h, s, e⟩ := q
  refine ⟨G, ρ, S, h, s, e.bind (rel := RVs (c.p X.K)) fun rs h1 ρ1 H1 xs n1 rx e1 => ?_⟩
  cases hd : dAll rs with
  | none => rw [hd] at e1; exact e1.elim
  | some ds =>
    have r := rx.dvs hd
    simp only [hd] at e1
    split at e1
    · rename_i hl
      exact ⟨by rw [r.length]; exact hl, fun z hz => new_tup n1.hr n1.tb r hz (e1.finE n1 s.hr)⟩
    · exact e1.elim
theorem ce_lst {es : List Expr} {g : AX} (h : CA X c es g) : CE X c (.List es pos) (xLst g) := by
  refine pe_weak (pe_lst h) fun σ H Q q => ?_
  obtain ⟨G, ρ, S, h, s, e⟩ := q
  refine ⟨G, ρ, S, h, s, e.bind (rel := RVs (c.p X.K)) fun rs h1 ρ1 H1 xs n1 rx e1 => ?_⟩
  cases hd : dAll rs with
  | none => rw [hd] at e1; exact e1.elim
  | some ds =>
    have r := rx.dvs hd
    simp only [hd] at e1
    split at e1
    · rename_i hl
      exact ⟨by rw [r.length]; exact hl, fun z hz => new_lst n1.hr n1.tb r hz (e1.finE n1 s.hr)⟩
    · exact e1.elim

/-! ### tests -/
def xAnd (f g : TX) : TX := fun S h => andThen (f S h) fun b h1 => if b = true then g S h1 else some (.ok false h1)
def xOr (f g : TX) : TX := fun S h => andThen (f S h) fun b h1 => if b = true then some (.ok true h1) else g S h1
def xNot (f : TX) : TX := fun S h => andThen (f S h) fun b h1 => some (.ok (!b) h1)
/-- truth of a value -/
def truD : D → Option Bool
  | .non => some false
  | .bl b => some b
  | .int i => some (i != 0)
  | .str x => if x.length ≤ sizeLine then some ((x.length : Int) != 0) else none
  | .tup xs => some (!xs.isEmpty)
  | _ => none
def truO : O → Option Bool
  | .lst xs => some (!xs.isEmpty)
  | .dct xs => some (!xs.isEmpty)
  | _ => none
def truC : Cn → Bool
  | .lst xs => !xs.isEmpty
  | .dct xs => !xs.isEmpty
  | .fz xs => !xs.isEmpty
def truR (r : R) (h : Hs) : Option Bool := match r with
  | .d (.ref j) => match h[j]? with
    | some o => truO o
    | none => none
  | .d x => truD x
  | .new k => some (truC k)
  | .bor k => some (truC k)
def xTru (f : EX) : TX := fun S h => andThen (f S h) fun r h1 => match truR r h1 with
  | some b => some (.ok b h1)
  | none => none
theorem DVs.emp {K : PySem.W.Frag} {ρ : List Addr} {H : Hp} {vs : List V} {ds : List D} (r : DVs K ρ H vs ds) : ds.isEmpty = vs.isEmpty := by cases r <;> rfl
theorem KD.emp {K : PySem.W.Frag} {ρ : List Addr} {H : Hp} {ks : List (Key × V)} {kd : List (Key × D)} (r : KD K ρ H ks kd) : kd.isEmpty = ks.isEmpty := by
  obtain ⟨e, _⟩ := r
  cases ks <;> cases kd <;> first | rfl | (simp at e)
theorem br_tru {p : Pm} {ρ : List Addr} {H : Hp} {kn : Addr → Prop} {a : Addr} {k : Cn} (q : BR p ρ H kn a k) : TruV p.K (.ref a) H (truC k) := by
  cases k with
  | lst ds => obtain ⟨vs, r, e, _⟩ := q; exact .inl ⟨vs, SqL.of e, by rw [← r.emp]; rfl⟩
  | dct kd => obtain ⟨ks, r, e, _⟩ := q; exact .inr (.inr ⟨ks, e, by rw [← r.emp]; rfl⟩)
  | fz ds =>
    obtain ⟨vs, r, e | ⟨⟨o, e⟩, _⟩⟩ := q
    · exact .inl ⟨vs, .inr e, by rw [← r.emp]; rfl⟩
    · exact .inl ⟨vs, .inl (.inr ⟨o, e⟩), by rw [← r.emp]; rfl⟩
theorem tru_of {p : Pm} {ρ : List Addr} {h : Hs} {Hb H : Hp} {v : V} {r : R} {b : Bool} (hr : HR p ρ h H) (q : RV p ρ Hb H v r) (e : truR r h = some b) : TruV p.K v H b := by
  cases r with
  | d x =>
    cases q with
    | non => cases e; exact rfl
    | bl b => cases e; exact rfl
    | int i => cases e; exact rfl
    | str x =>
      simp only [truR, truD] at e
      split at e
      · cases e; exact ⟨by assumption, rfl⟩
      · cases e
    | ty n => cases e
    | tup hs r => cases e; exact .inr (.inl ⟨_, hs, by rw [← r.emp]⟩)
    | ref hj =>
      rename_i j a
      simp only [truR] at e
      cases ho : h[j]? with
      | none => rw [ho] at e; cases e
      | some o =>
        rw [ho] at e
        have m := hr.ob j a o hj ho
        cases o with
        | lst ds => cases e; obtain ⟨vs, x, r⟩ := m; exact .inl ⟨vs, SqL.of x, by rw [← r.emp]⟩
        | dct kd => cases e; obtain ⟨ks, x, r⟩ := m; exact .inr (.inr ⟨ks, x, by rw [← r.emp]⟩)
        | ins c fs => cases e
  | new k =>
    obtain ⟨a, rfl, _, na, m⟩ := q
    cases e
    exact br_tru (m.br (kn := fun _ => True) na trivial)
  | bor k =>
    obtain ⟨a, rfl, m⟩ := q
    cases e
    exact br_tru m
theorem ct_tru {f : EX} (h : CE X c e f) (he : ∀ whole, isTrue e X.env whole = (do let v ← whole; standAt e.pos; holding [v] (truthy v)) := by exact fun _ => rfl) : CT X c e (xTru f) := by
  refine pt_weak (pt_truth h he) fun σ H Q q => ?_
  obtain ⟨G, ρ, S, h, s, e⟩ := q
  refine ⟨G, ρ, S, h, s, e.bind (rel := RV (c.p X.K)) fun r h1 ρ1 H1 x n1 rx e1 => ?_⟩
  cases ht : truR r h1 with
  | none => rw [ht] at e1; exact e1.elim
  | some b =>
    rw [ht] at e1
    exact ⟨b, tru_of n1.hr rx ht, e1 ρ1 H1 b n1 rfl⟩
/-- a comparison as a test -/
def xTest (f : EX) : TX := fun S h => andThen (f S h) fun r h1 => match r with
  | .d (.bl b) => some (.ok b h1)
  | _ => none
theorem ct_cmp {op : CmpOp} {r : R2} {g : P2f} (ho : OpR X (compareOp op) r) (hp : P2 X c r g) (ha : CE X c a fa) (hb : CE X c b fb) (hm : behindInMarks op b = false) : CT X c (.Compare a [op] [b] pos) (xTest (op2 g fa fb)) := by
  refine pt_weak (pt_cmpR ho ha hb hm) fun σ H Q q => ?_
  obtain ⟨G, ρ, S, h, s, e⟩ := q
  refine tE_op hp σ H _ ⟨G, ρ, S, h, s, ?_⟩
  refine e.bind (rel := RV (c.p X.K)) fun r h1 ρ1 H1 x n1 rx e1 => ?_
  cases r with
  | d x =>
    cases x with
    | bl b => cases rx; exact ⟨b, rfl, e1 ρ1 H1 b n1 rfl⟩
    | _ => exact e1.elim
  | _ => exact e1.elim
theorem ct_and {op : List Expr} {f g : TX} (ha : CT X c a f) (hb : PW X (.BoolOp .And (b :: op) pos) (tT X.K c g)) : PW X (.BoolOp .And (a :: b :: op) pos) (tT X.K c (xAnd f g)) := by
  refine ⟨fun wh pins s σ H Q I q => (pw_and ha hb).run wh pins s σ H Q I ?_⟩
  obtain ⟨G, ρ, S, h, s, e⟩ := q
  refine ⟨G, ρ, S, h, s, e.bind (rel := Bl) fun b h1 ρ1 H1 x n1 rx e1 => ?_⟩
  cases rx
  cases b with
  | true => exact iteT ⟨G, ρ1, S, h1, s.nx n1, Ed.later e1 n1 fun _ _ _ _ z => z⟩
  | false => exact iteF (e1 ρ1 H1 false n1 rfl)
theorem ct_or {op : List Expr} {f g : TX} (ha : CT X c a f) (hb : PW X (.BoolOp .Or (b :: op) pos) (tT X.K c g)) : PW X (.BoolOp .Or (a :: b :: op) pos) (tT X.K c (xOr f g)) := by
  refine ⟨fun wh pins s σ H Q I q => (pw_or ha hb).run wh pins s σ H Q I ?_⟩
  obtain ⟨G, ρ, S, h, s, e⟩ := q
  refine ⟨G, ρ, S, h, s, e.bind (rel := Bl) fun b h1 ρ1 H1 x n1 rx e1 => ?_⟩
  cases rx
  cases b with
  | true => exact iteT (e1 ρ1 H1 true n1 rfl)
  | false => exact iteF ⟨G, ρ1, S, h1, s.nx n1, Ed.later e1 n1 fun _ _ _ _ z => z⟩
theorem ct_not {f : TX} (ha : CT X c a f) : CT X c (.UnaryOp .Not a pos) (xNot f) := by
  refine pt_weak (pt_not ha) fun σ H Q q => ?_
  obtain ⟨G, ρ, S, h, s, e⟩ := q
  refine ⟨G, ρ, S, h, s, e.bind (rel := Bl) fun b h1 ρ1 H1 x n1 rx e1 => ?_⟩
  cases rx
  exact e1 ρ1 H1 _ n1 rfl
def xIf (t : TX) (f g : EX) : EX := fun S h => andThen (t S h) fun b h1 => if b = true then f S h1 else g S h1
theorem ce_if {t : TX} {f g : EX} (ht : CT X c e t) (ha : CE X c a f) (hb : CE X c b g) : CE X c (.IfExp e a b pos) (xIf t f g) := by
  refine pe_weak (pe_ifExp ht ha hb) fun σ H Q q => ?_
  obtain ⟨G, ρ, S, h, s, e⟩ := q
  refine ⟨G, ρ, S, h, s, e.bind (rel := Bl) fun b h1 ρ1 H1 x n1 rx e1 => ?_⟩
  cases rx
  cases b with
  | true => exact iteT ⟨G, ρ1, S, h1, s.nx n1, Ed.later e1 n1 fun _ _ _ _ z => z.back n1 s.hr⟩
  | false => exact iteF ⟨G, ρ1, S, h1, s.nx n1, Ed.later e1 n1 fun _ _ _ _ z => z.back n1 s.hr⟩
end
end Sh
set_option Elab.async false
set_option linter.all false
set_option maxRecDepth 100000
namespace Sh
open PySem PySem.Spec PyProof.Rows L2

/-! ### views -/
/-- as a list that stands by itself -/
def lstOf (r : R) (h : Hs) : Option (List D) := match r with
  | .new (.lst xs) => some xs
  | .bor (.lst xs) => some xs
  | .d (.ref j) => match h[j]? with
    | some (.lst xs) => some xs
    | _ => none
  | _ => none
/-- as a list or a tuple to be read -/
def seqOf (r : R) (h : Hs) : Option (List D) := match r with
  | .d (.tup xs) => some xs
  | .bor (.fz xs) => some xs
  | r => lstOf r h
def intOf (r : R) : Option Int := match r with
  | .d (.int i) => some i
  | _ => none
def strOf (r : R) : Option Str := match r with
  | .d (.str i) => some i
  | _ => none
def tupOf (r : R) : Option (List D) := match r with
  | .d (.tup xs) => some xs
  | _ => none
def blOf (r : R) : Option Bool := match r with
  | .d (.bl i) => some i
  | _ => none
section
variable {p : Pm} {ρ : List Addr} {h : Hs} {Hb H : Hp} {v : V} {r : R}
theorem int_of {i : Int} (q : RV p ρ Hb H v r) (e : intOf r = some i) : v = .int i := by
  cases r with
  | d x => cases x <;> cases e; cases q; rfl
  | _ => cases e
theorem str_of {i : Str} (q : RV p ρ Hb H v r) (e : strOf r = some i) : v = .str i := by
  cases r with
  | d x => cases x <;> cases e; cases q; rfl
  | _ => cases e
theorem bl_of {i : Bool} (q : RV p ρ Hb H v r) (e : blOf r = some i) : v = .bl i := by
  cases r with
  | d x => cases x <;> cases e; cases q; rfl
  | _ => cases e
theorem tup_of {ds : List D} (q : RV p ρ Hb H v r) (e : tupOf r = some ds) : ∃ a vs, v = .ref a ∧ SqT p.K H a vs ∧ DVs p.K ρ H vs ds := by
  cases r with
  | d x =>
    cases x <;> cases e
    cases q with
    | tup hs r => exact ⟨_, _, rfl, hs, r⟩
  | _ => cases e
theorem lst_of {ds : List D} (hr : HR p ρ h H) (q : RV p ρ Hb H v r) (e : lstOf r h = some ds) : ∃ a vs, v = .ref a ∧ H a = some (.lst vs) ∧ DVs p.K ρ H vs ds := by
  cases r with
  | d x =>
    cases x with
    | ref j =>
      cases q with
      | ref hj =>
        simp only [lstOf] at e
        cases ho : h[j]? with
        | none => rw [ho] at e; cases e
        | some o =>
          rw [ho] at e
          have m := hr.ob j _ o hj ho
          cases o with
          | lst xs => cases e; obtain ⟨vs, e1, e2⟩ := m; exact ⟨_, vs, rfl, e1, e2⟩
          | _ => cases e
    | _ => cases e
  | new k =>
    obtain ⟨a, rfl, _, _, m⟩ := q
    cases k with
    | lst xs => cases e; obtain ⟨vs, e1, e2⟩ := m; exact ⟨a, vs, rfl, e1, e2⟩
    | _ => cases e
  | bor k =>
    obtain ⟨a, rfl, m⟩ := q
    cases k with
    | lst xs => cases e; obtain ⟨vs, e1, e2, _⟩ := m; exact ⟨a, vs, rfl, e2, e1⟩
    | _ => cases e
theorem seq_of {ds : List D} (hr : HR p ρ h H) (q : RV p ρ Hb H v r) (e : seqOf r h = some ds) : ∃ a vs, v = .ref a ∧ (SqL p.K H a vs ∨ SqT p.K H a vs) ∧ DVs p.K ρ H vs ds := by
  have go : lstOf r h = some ds → ∃ a vs, v = .ref a ∧ (SqL p.K H a vs ∨ SqT p.K H a vs) ∧ DVs p.K ρ H vs ds := fun e => by
    obtain ⟨a, vs, e1, e2, e3⟩ := lst_of hr q e
    exact ⟨a, vs, e1, .inl (SqL.of e2), e3⟩
  cases r with
  | d x =>
    cases x with
    | tup xs =>
      cases e
      obtain ⟨a, vs, e1, e2, e3⟩ := tup_of q rfl
      exact ⟨a, vs, e1, .inr e2, e3⟩
    | ref j => exact go e
    | _ => cases e
  | new k => exact go e
  | bor k =>
    cases k with
    | fz xs =>
      cases e
      obtain ⟨a, rfl, vs, e1, e2 | ⟨⟨o, e2⟩, _⟩⟩ := q
      · exact ⟨a, vs, rfl, .inl (.inr e2), e1⟩
      · exact ⟨a, vs, rfl, .inl (.inl (.inr ⟨o, e2⟩)), e1⟩
    | _ => exact go e
theorem fin_d {Q : VK} {x : D} {v : V} (hr : HR p ρ h H) (tb : LamX.Tabs p.T H) (e : Fin' p ρ h H (some (.d x)) Q) (q : DV p.K ρ H v x) : Q v H := e H v (.refl hr tb) q
end

/-! ### ints, texts, lists, tuples: + - * // % -/
def gAdd : P2f := fun a b h => match a, b with
  | .d (.int i), .d (.int j) => some (.d (.int (i + j)))
  | .d (.str x), .d (.str y) => if x.length + y.length ≤ sizeLine then some (.d (.str (x ++ y))) else none
  | .d (.tup xs), .d (.tup ys) => if xs.length + ys.length ≤ sizeLine then some (.d (.tup (xs ++ ys))) else none
  | a, b => match lstOf a h, lstOf b h with
    | some xs, some ys => if xs.length + ys.length ≤ sizeLine then some (.new (.lst (xs ++ ys))) else none
    | _, _ => none
def rAddA (K : PySem.W.Frag) : R2 := fun x y H Q => rI0 (fun i j => .int (i + j)) x y H Q ∨ (∃ i j, x = .str i ∧ y = .str j ∧ i.length + j.length ≤ sizeLine ∧ Q (.str (i ++ j)) H) ∨ rCatA K x y H Q ∨ rCat x y H Q
section
variable {X : Cx} {c : Cc}
theorem op_addA : OpR X (binaryOp .Add) (rAddA X.K) := op_add.or (op_add_str.or (op_catA.or op_cat))
theorem p2_add : P2 X c (rAddA X.K) gAdd := by
  intro ρ h H Ha Hb x y a b Q hr tb qa qb e
  have lists : (match lstOf a h, lstOf b h with
    | some xs, some ys => if xs.length + ys.length ≤ sizeLine then some (R.new (.lst (xs ++ ys))) else none
    | _, _ => none) = gAdd a b h → rAddA X.K x y H Q := fun eq => by
    rw [← eq] at e
    cases la : lstOf a h with
    | none => rw [la] at e; exact e.elim
    | some xs =>
      cases lb : lstOf b h with
      | none => rw [la, lb] at e; exact e.elim
      | some ys =>
        rw [la, lb] at e
        obtain ⟨p, vs, rfl, h1, r1⟩ := lst_of hr qa la
        obtain ⟨q, ws, rfl, h2, r2⟩ := lst_of hr qb lb
        simp only at e
        split at e
        · rename_i hz
          exact .inr (.inr (.inr ⟨p, q, vs, ws, rfl, rfl, h1, h2, by rw [r1.length, r2.length]; exact hz, fun z hz => new_lst hr tb (r1.append r2) hz e⟩))
        · exact e.elim
  cases a with
  | d u =>
    cases b with
    | d w =>
      cases u <;> cases w <;> first | exact lists rfl | skip
      · cases qa; cases qb
        exact .inl ⟨_, _, rfl, rfl, fin_d hr tb e (.int _)⟩
      · rename_i i j
        cases qa; cases qb
        unfold gAdd at e
        simp only at e
        split at e
        · exact .inr (.inl ⟨_, _, rfl, rfl, by assumption, fin_d hr tb e (.str _)⟩)
        · exact e.elim
      · rename_i xs ys
        obtain ⟨p, vs, rfl, h1, r1⟩ := tup_of qa rfl
        obtain ⟨q, ws, rfl, h2, r2⟩ := tup_of qb rfl
        unfold gAdd at e
        simp only at e
        split at e
        · rename_i hz
          refine .inr (.inr (.inl ⟨p, q, vs, ws, rfl, rfl, h1, h2, by rw [r1.length, r2.length]; exact hz, fun hv => ?_, fun hv hw => ?_, fun _ _ z hz => new_tup hr tb (r1.append r2) hz e⟩))
          · subst hv; cases r1
            exact fin_d hr tb e (.tup h2 r2)
          · subst hw; cases r2
            rw [List.append_nil] at e
            exact fin_d hr tb e (.tup h1 r1)
        · exact e.elim
    | _ => exact lists (by cases u <;> rfl)
  | _ => exact lists (by cases b <;> rfl)
/-- a prim on two ints -/
def gI (g : Int → Int → Option D) : P2f := fun a b _ => match intOf a, intOf b with
  | some i, some j => (g i j).map R.d
  | _, _ => none
theorem p2_int {C : Int → Int → Prop} [∀ i j, Decidable (C i j)] {f : Int → Int → V} {g : Int → Int → D} (hv : ∀ K ρ H i j, DV K ρ H (f i j) (g i j)) : P2 X c (rI C f) (gI fun i j => if C i j then some (g i j) else none) := by
  intro ρ h H Ha Hb x y a b Q hr tb qa qb e
  unfold gI at e
  cases ia : intOf a with
  | none => rw [ia] at e; exact e.elim
  | some i =>
    cases ib : intOf b with
    | none => rw [ia, ib] at e; exact e.elim
    | some j =>
      rw [ia, ib] at e
      simp only at e
      split at e
      · rename_i hc
        exact ⟨i, j, int_of qa ia, int_of qb ib, hc, fin_d hr tb e (hv _ _ _ i j)⟩
      · exact e.elim
theorem p2_int0 {f : Int → Int → V} {g : Int → Int → D} (hv : ∀ K ρ H i j, DV K ρ H (f i j) (g i j)) : P2 X c (rI0 f) (gI fun i j => some (g i j)) := by
  intro ρ h H Ha Hb x y a b Q hr tb qa qb e
  unfold gI at e
  cases ia : intOf a with
  | none => rw [ia] at e; exact e.elim
  | some i =>
    cases ib : intOf b with
    | none => rw [ia, ib] at e; exact e.elim
    | some j =>
      rw [ia, ib] at e
      exact ⟨i, j, int_of qa ia, int_of qb ib, fin_d hr tb e (hv _ _ _ i j)⟩
theorem cmul_iff (i j : Int) : ((-18446744073709551616 < i ∧ i < 18446744073709551616) ∨ (-18446744073709551616 < j ∧ j < 18446744073709551616)) ↔ CMul i j := by
  unfold CMul
  rw [show (2 : Int) ^ 64 = 18446744073709551616 from by decide]
instance : ∀ i j, Decidable (CMul i j) := fun i j => decidable_of_iff _ (cmul_iff i j)
instance : ∀ i j, Decidable (CDiv i j) := fun i j => inferInstanceAs (Decidable (_ ∧ _))
def gSub : P2f := gI fun i j => some (.int (i - j))
def gDiv : P2f := gI fun i j => if CDiv i j then some (.int (i / j)) else none
def gMod : P2f := gI fun i j => if 0 < j then some (.int (i % j)) else none
def gLt : P2f := gI fun i j => some (.bl (decide (i < j)))
def gLe : P2f := gI fun i j => some (.bl (decide (i ≤ j)))
def gGt : P2f := gI fun i j => some (.bl (decide (j < i)))
def gGe : P2f := gI fun i j => some (.bl (decide (j ≤ i)))
theorem p2_sub : P2 X c (rI0 fun i j => .int (i - j)) gSub := p2_int0 fun _ _ _ _ _ => .int _
theorem p2_div : P2 X c (rI CDiv fun i j => .int (i / j)) gDiv := p2_int fun _ _ _ _ _ => .int _
theorem p2_mod : P2 X c (rI (fun _ j => 0 < j) fun i j => .int (i % j)) gMod := p2_int fun _ _ _ _ _ => .int _
theorem p2_lt : P2 X c (rI0 fun i j => .bl (decide (i < j))) gLt := p2_int0 fun _ _ _ _ _ => .bl _
theorem p2_le : P2 X c (rI0 fun i j => .bl (decide (i ≤ j))) gLe := p2_int0 fun _ _ _ _ _ => .bl _
theorem p2_gt : P2 X c (rI0 fun i j => .bl (decide (j < i))) gGt := p2_int0 fun _ _ _ _ _ => .bl _
theorem p2_ge : P2 X c (rI0 fun i j => .bl (decide (j ≤ i))) gGe := p2_int0 fun _ _ _ _ _ => .bl _
/-- * of ints, a list or a tuple by an int -/
noncomputable def gMul : P2f := fun a b h => match a, b with
  | .d (.int i), .d (.int j) => if CMul i j then some (.d (.int (i * j))) else none
  | .d (.tup xs), .d (.int k) => if xs ≠ [] ∧ 2 ≤ k ∧ k ≤ 1000 ∧ xs.length ≤ 1000 then some (.d (.tup (List.replicate k.toNat xs).flatten)) else none
  | a, .d (.int k) => match lstOf a h with
    | some xs => if -(2 ^ 63) ≤ k ∧ k < 2 ^ 63 ∧ xs.length * k.toNat ≤ sizeLine then some (.new (.lst (List.replicate k.toNat xs).flatten)) else none
    | _ => none
  | _, _ => none
def rMulA (K : PySem.W.Frag) : R2 := fun x y H Q => rI CMul (fun i j => .int (i * j)) x y H Q ∨ rRepT K x y H Q ∨ rRep x y H Q
theorem op_mulA : OpR X (binaryOp .Mult) (rMulA X.K) := op_mul.or (op_repT.or op_rep)
theorem DVs.rep {K : PySem.W.Frag} {ρ : List Addr} {H : Hp} {vs : List V} {ds : List D} (r : DVs K ρ H vs ds) : ∀ n : Nat, DVs K ρ H (List.replicate n vs).flatten (List.replicate n ds).flatten
  | 0 => .nil
  | n + 1 => by rw [List.replicate_succ, List.replicate_succ, List.flatten_cons, List.flatten_cons]; exact r.append (DVs.rep r n)
theorem DVs.ne {K : PySem.W.Frag} {ρ : List Addr} {H : Hp} {vs : List V} {ds : List D} (r : DVs K ρ H vs ds) (h : ds ≠ []) : vs ≠ [] := fun e => by subst e; cases r; exact h rfl
theorem p2_mul : P2 X c (rMulA X.K) gMul := by
  intro ρ h H Ha Hb x y a b Q hr tb qa qb e
  have lists : ∀ k, b = .d (.int k) → (match lstOf a h with
    | some xs => if -(2 ^ 63) ≤ k ∧ k < 2 ^ 63 ∧ xs.length * k.toNat ≤ sizeLine then some (R.new (.lst (List.replicate k.toNat xs).flatten)) else none
    | _ => none) = gMul a b h → rMulA X.K x y H Q := fun k hb eq => by
    rw [← eq] at e
    subst hb
    cases la : lstOf a h with
    | none => rw [la] at e; exact e.elim
    | some xs =>
      rw [la] at e
      obtain ⟨p, vs, rfl, h1, r1⟩ := lst_of hr qa la
      cases qb
      simp only at e
      split at e
      · rename_i hz
        exact .inr (.inr ⟨p, k, vs, rfl, rfl, h1, hz.1, hz.2.1, by rw [r1.length]; exact hz.2.2, fun z hz => new_lst hr tb (r1.rep _) hz e⟩)
      · exact e.elim
  cases b with
  | d w =>
    cases w with
    | int k =>
      cases a with
      | d u =>
        cases u with
        | int i =>
          cases qa; cases qb
          unfold gMul at e
          simp only at e
          split at e
          · exact .inl ⟨_, _, rfl, rfl, by assumption, fin_d hr tb e (.int _)⟩
          · exact e.elim
        | tup xs =>
          obtain ⟨p, vs, rfl, h1, r1⟩ := tup_of qa rfl
          cases qb
          unfold gMul at e
          simp only at e
          split at e
          · rename_i hz
            exact .inr (.inl ⟨p, k, vs, rfl, rfl, h1, r1.ne hz.1, hz.2.1, hz.2.2.1, by rw [r1.length]; exact hz.2.2.2, fun z hz => new_tup hr tb (r1.rep _) hz e⟩)
          · exact e.elim
        | _ => exact lists k rfl rfl
      | _ => exact lists k rfl rfl
    | _ => cases a <;> (try rename_i u; cases u) <;> exact e.elim
  | _ => cases a <;> (try rename_i u; cases u) <;> exact e.elim
def gNeg : P1f := fun a _ => match intOf a with
  | some i => some (.d (.int (-i)))
  | none => none
theorem p1_neg : P1 X c (rU fun i => .int (-i)) gNeg := by
  intro ρ h H Ha x a Q hr tb qa e
  unfold gNeg at e
  cases ia : intOf a with
  | none => rw [ia] at e; exact e.elim
  | some i => rw [ia] at e; exact ⟨i, int_of qa ia, fin_d hr tb e (.int _)⟩
end
end Sh
set_option Elab.async false
set_option linter.all false
set_option maxRecDepth 100000
namespace Sh
open PySem PySem.Spec PyProof.Rows L2

/-! ### is, is not -/
def idV (x y : V) : Option Bool := match x, y with
  | .non, .non => some true
  | .bl a, .bl b => some (decide (a = b))
  | .ty a, .ty b => some (decide (a = b))
  | .bl _, .non => some false
  | .int _, .non => some false
  | .str _, .non => some false
  | .ref _, .non => some false
  | .ty _, .non => some false
  | .non, .bl _ => some false
  | .int _, .bl _ => some false
  | .str _, .bl _ => some false
  | .ref _, .bl _ => some false
  | .ty _, .bl _ => some false
  | _, _ => none
def rIsA : R2 := fun x y H Q => ∃ b, idV x y = some b ∧ Q (.bl b) H
def rNotA : R2 := fun x y H Q => ∃ b, idV x y = some b ∧ Q (.bl (!b)) H
theorem idV_of {x y : V} {v u : Value} {b : Bool} (rx : RelV x v) (ry : RelV y u) (e : idV x y = some b) : plainIs v u = true ∧ (v == u) = b := by
  cases x <;> cases y <;> first | (simp only [idV] at e; cases e; done) | skip
  · cases rx; cases ry; cases e; exact ⟨rfl, rfl⟩
  · cases rx; cases ry; cases e; exact ⟨rfl, rfl⟩
  · cases rx; cases ry; cases e; exact ⟨rfl, rfl⟩
  · cases rx; cases ry; cases e
    rename_i a b
    exact ⟨rfl, by cases a <;> cases b <;> rfl⟩
  · obtain ⟨t, rfl⟩ := rx; cases ry; cases e; exact ⟨rfl, rfl⟩
  · obtain ⟨t, rfl⟩ := rx; cases ry; cases e; exact ⟨rfl, rfl⟩
  · obtain ⟨t, rfl⟩ := rx; cases ry; cases e; exact ⟨rfl, rfl⟩
  · obtain ⟨t, rfl⟩ := rx; cases ry; cases e; exact ⟨rfl, rfl⟩
  · cases rx; cases ry; cases e; exact ⟨rfl, rfl⟩
  · cases rx; cases ry; cases e; exact ⟨rfl, rfl⟩
  · cases rx; cases ry; cases e; exact ⟨rfl, rfl⟩
  · cases rx; cases ry; cases e; exact ⟨rfl, rfl⟩
  · cases rx; cases ry; cases e; exact ⟨rfl, ty_beq _ _⟩
def idR (a b : R) : Option Bool := match a, b with
  | .d .non, .d .non => some true
  | .d (.bl a), .d (.bl b) => some (decide (a = b))
  | .d (.ty a), .d (.ty b) => some (decide (a = b))
  | .d .non, .d (.bl _) => some false
  | .d .non, _ => none
  | .d (.bl _), .d .non => some false
  | .d (.bl _), _ => none
  | _, .d .non => some false
  | _, .d (.bl _) => some false
  | _, _ => none
section
variable {X : Cx} {c : Cc}
theorem op_isA : OpR X (compareOp .Is) rIsA := by
  intro pins s σ H x y v u Q I rx ry h
  obtain ⟨b, e, q⟩ := h
  obtain ⟨h1, h2⟩ := idV_of rx ry e
  exact wpAny_is_plain h1 (fin_bl I q h2.symm)
theorem op_isNotA : OpR X (compareOp .IsNot) rNotA := by
  intro pins s σ H x y v u Q I rx ry h
  obtain ⟨b, e, q⟩ := h
  obtain ⟨h1, h2⟩ := idV_of rx ry e
  exact wpAny_isNot_plain h1 (fin_bl I q (by rw [h2]))
theorem idR_V {p : Pm} {ρ : List Addr} {Ha Hb H : Hp} {x y : V} {a b : R} {k : Bool} (qa : RV p ρ Ha H x a) (qb : RV p ρ Hb H y b) (e : idR a b = some k) : idV x y = some k := by
  cases a with
  | d u =>
    cases b with
    | d w =>
      cases u <;> cases w <;> first | (simp only [idR] at e; cases e; done) | (cases qa; cases qb; cases e; rfl)
    | _ => cases u <;> (simp only [idR] at e; cases e)
  | new k =>
    obtain ⟨z, rfl, _⟩ := qa
    cases b with
    | d w => cases w <;> first | (simp only [idR] at e; cases e; done) | (cases qb; cases e; rfl)
    | _ => simp only [idR] at e; cases e
  | bor k =>
    obtain ⟨z, rfl, _⟩ := qa
    cases b with
    | d w => cases w <;> first | (simp only [idR] at e; cases e; done) | (cases qb; cases e; rfl)
    | _ => simp only [idR] at e; cases e
def gIs : P2f := fun a b _ => (idR a b).map fun k => .d (.bl k)
def gIsNot : P2f := fun a b _ => (idR a b).map fun k => .d (.bl (!k))
theorem p2_is : P2 X c rIsA gIs := by
  intro ρ h H Ha Hb x y a b Q hr tb qa qb e
  unfold gIs at e
  cases k : idR a b with
  | none => rw [k] at e; exact e.elim
  | some k' => rw [k] at e; exact ⟨k', idR_V qa qb k, fin_d hr tb e (.bl _)⟩
theorem p2_isNot : P2 X c rNotA gIsNot := by
  intro ρ h H Ha Hb x y a b Q hr tb qa qb e
  unfold gIsNot at e
  cases k : idR a b with
  | none => rw [k] at e; exact e.elim
  | some k' => rw [k] at e; exact ⟨k', idR_V qa qb k, fin_d hr tb e (.bl _)⟩

/-! ### == and != of data -/
mutual
def pyD : D → Option PyData
  | .non => some .none
  | .bl b => some (.bool b)
  | .int i => some (.int i)
  | .str x => some (.str x)
  | .tup xs => match pyDs xs with
    | some ps => some (.tuple ps)
    | none => none
  | .ty _ => none
  | .ref _ => none
def pyDs : List D → Option (List PyData)
  | [] => some []
  | x :: xs => match pyD x, pyDs xs with
    | some p, some ps => some (p :: ps)
    | _, _ => none
end
mutual
theorem dp_of {K : PySem.W.Frag} {ρ : List Addr} {H : Hp} : ∀ {v : V} {d : D} {p : PyData}, DV K ρ H v d → pyD d = some p → Dp K H v p
  | _, _, _, .non, e => by cases e; exact .non
  | _, _, _, .bl b, e => by cases e; exact .bl b
  | _, _, _, .int i, e => by cases e; exact .int i
  | _, _, _, .str x, e => by cases e; exact .str x
  | _, _, _, .ty n, e => by cases e
  | _, _, p, .tup (ds := ds) hs r, e => by
    cases q : pyDs ds with
    | none => simp only [pyD, q] at e; cases e
    | some ps =>
      simp only [pyD, q] at e; cases e
      exact .tup hs (dps_of r q)
  | _, _, _, .ref _, e => by cases e
theorem dps_of {K : PySem.W.Frag} {ρ : List Addr} {H : Hp} : ∀ {vs : List V} {ds : List D} {ps : List PyData}, DVs K ρ H vs ds → pyDs ds = some ps → DpAll K H vs ps
  | _, _, _, .nil, e => by cases e; exact .nil
  | _, _, ps, .cons (d := d) (ds := ds) h r, e => by
    cases q1 : pyD d with
    | none => simp only [pyDs, q1] at e; cases e
    | some p =>
      cases q2 : pyDs ds with
      | none => simp only [pyDs, q1, q2] at e; cases e
      | some ps =>
        simp only [pyDs, q1, q2] at e; cases e
        exact .cons (dp_of h q1) (dps_of r q2)
end
/-- an expression's end as data to be compared -/
def pyR (r : R) (h : Hs) : Option PyData := match r with
  | .d (.ref j) => match lstOf (.d (.ref j)) h with
    | some xs => (pyDs xs).map PyData.list
    | none => none
  | .d x => pyD x
  | r => match seqOf r h with
    | some xs => (pyDs xs).map PyData.list
    | none => none
def eqR (a b : R) (h : Hs) : Option Bool := match pyR a h, pyR b h with
  | some x, some y => if SeqAt.shaped x = true ∧ SeqAt.shaped y = true then some (PyData.eqv x y) else none
  | _, _ => none
theorem pyR_of {p : Pm} {ρ : List Addr} {h : Hs} {Hb H : Hp} {v : V} {r : R} {d : PyData} (hr : HR p ρ h H) (q : RV p ρ Hb H v r) (e : pyR r h = some d) : Dp p.K H v d := by
  have lists : ∀ {xs : List D}, (∃ a vs, v = .ref a ∧ SqL p.K H a vs ∧ DVs p.K ρ H vs xs) → (pyDs xs).map PyData.list = some d → Dp p.K H v d := fun {xs} ⟨a, vs, e1, e2, e3⟩ e => by
    subst e1
    cases q : pyDs xs with
    | none => rw [q] at e; cases e
    | some ps => rw [q] at e; cases e; exact .lst e2 (dps_of e3 q)
  cases r with
  | d x =>
    cases x with
    | ref j =>
      simp only [pyR] at e
      cases ls : lstOf (.d (.ref j)) h with
      | none => rw [ls] at e; cases e
      | some xs =>
        rw [ls] at e
        obtain ⟨a, vs, e1, e2, e3⟩ := lst_of hr q ls
        exact lists ⟨a, vs, e1, SqL.of e2, e3⟩ e
    | _ => exact dp_of q e
  | new k =>
    simp only [pyR] at e
    cases k with
    | lst xs =>
      obtain ⟨a, rfl, _, _, vs, e1, e2⟩ := q
      exact lists ⟨a, vs, rfl, SqL.of e1, e2⟩ e
    | _ => cases e
  | bor k =>
    simp only [pyR] at e
    cases k with
    | lst xs =>
      obtain ⟨a, rfl, vs, e2, e1, _⟩ := q
      exact lists ⟨a, vs, rfl, SqL.of e1, e2⟩ e
    | dct xs => cases e
    | fz xs =>
      obtain ⟨a, rfl, vs, e2, e1 | ⟨⟨o, e1⟩, _⟩⟩ := q
      · exact lists ⟨a, vs, rfl, .inr e1, e2⟩ e
      · exact lists ⟨a, vs, rfl, .inl (.inr ⟨o, e1⟩), e2⟩ e
def gEq : P2f := fun a b h => (eqR a b h).map fun k => .d (.bl k)
def gNe : P2f := fun a b h => (eqR a b h).map fun k => .d (.bl (!k))
theorem eqR_of {p : Pm} {ρ : List Addr} {h : Hs} {Ha Hb H : Hp} {x y : V} {a b : R} {k : Bool} (hr : HR p ρ h H) (qa : RV p ρ Ha H x a) (qb : RV p ρ Hb H y b) (e : eqR a b h = some k) :
    ∃ d e, Dp p.K H x d ∧ Dp p.K H y e ∧ SeqAt.shaped d = true ∧ SeqAt.shaped e = true ∧ PyData.eqv d e = k := by
  unfold eqR at e
  cases e1 : pyR a h with
  | none => rw [e1] at e; cases e
  | some d1 =>
    cases e2 : pyR b h with
    | none => rw [e1, e2] at e; cases e
    | some d2 =>
      rw [e1, e2] at e
      simp only at e
      split at e
      · rename_i hs
        cases e
        exact ⟨d1, d2, pyR_of hr qa e1, pyR_of hr qb e2, hs.1, hs.2, rfl⟩
      · cases e
theorem p2_eq : P2 X c (rEqD X.K) gEq := by
  intro ρ h H Ha Hb x y a b Q hr tb qa qb e
  unfold gEq at e
  cases k : eqR a b h with
  | none => rw [k] at e; exact e.elim
  | some k' =>
    rw [k] at e
    obtain ⟨d1, d2, h1, h2, h3, h4, h5⟩ := eqR_of hr qa qb k
    exact ⟨d1, d2, h1, h2, h3, h4, by rw [h5]; exact fin_d hr tb e (.bl _)⟩
theorem p2_ne : P2 X c (rNeD X.K) gNe := by
  intro ρ h H Ha Hb x y a b Q hr tb qa qb e
  unfold gNe at e
  cases k : eqR a b h with
  | none => rw [k] at e; exact e.elim
  | some k' =>
    rw [k] at e
    obtain ⟨d1, d2, h1, h2, h3, h4, h5⟩ := eqR_of hr qa qb k
    exact ⟨d1, d2, h1, h2, h3, h4, by rw [h5]; exact fin_d hr tb e (.bl _)⟩

/-! ### in, not in -/
def flatD : D → Bool
  | .non => true
  | .bl _ => true
  | .int _ => true
  | .str _ => true
  | _ => false
def eqF : D → D → Bool
  | .non, .non => true
  | .bl a, .bl b => a == b
  | .bl a, .int b => (if a then 1 else 0) == b
  | .int a, .bl b => a == (if b then 1 else 0)
  | .int a, .int b => a == b
  | .str a, .str b => a == b
  | _, _ => false
def inD (x : D) (xs : List D) : Bool := xs.any fun y => eqF y x
def keyD : D → Option Key
  | .int i => some (.inl i)
  | .str x => some (.inr x)
  | _ => none
def dctOf (r : R) (h : Hs) : Option (List (Key × D)) := match r with
  | .new (.dct xs) => some xs
  | .bor (.dct xs) => some xs
  | .d (.ref j) => match h[j]? with
    | some (.dct xs) => some xs
    | _ => none
  | _ => none
def lookD (kd : List (Key × D)) (k : Key) : Option D := (kd.find? fun q => decide (q.1 = k)).map (·.2)
/-- is a in b -/
def inR (a b : R) (h : Hs) : Option Bool := match dctOf b h, strOf b with
  | some kd, _ => match a with
    | .d x => match keyD x with
      | some k => some (lookD kd k).isSome
      | none => none
    | _ => none
  | none, some z => match a with
    | .d (.str ⟨⟨[c]⟩⟩) => some (decide (c ∈ z.cps.toList))
    | _ => none
  | none, none => match a, seqOf b h with
    | .d x, some xs => if flatD x = true ∧ xs.all flatD = true then some (inD x xs) else none
    | _, _ => none
def gIn : P2f := fun a b h => (inR a b h).map fun k => .d (.bl k)
def gNotIn : P2f := fun a b h => (inR a b h).map fun k => .d (.bl (!k))
def rInD (neg : Bool) : R2 := fun x y H Q => ∃ a o, y = .ref a ∧ DGet H a x o ∧ Q (.bl (if neg then !o.isSome else o.isSome)) H
theorem op_inDict (hu : X.A.units + 1 < cLine) : OpR X (compareOp .In) (rInD false) := by
  intro pins s σ H x y v u Q I rx ry h
  obtain ⟨a, o, rfl, g, q⟩ := h
  obtain rfl : u = Value.ref a := ry
  exact d_in hu I g rx fun s3 I3 => ⟨.bl o.isSome, H, I3, rfl, q⟩
theorem op_notInDict (hu : X.A.units + 1 < cLine) : OpR X (compareOp .NotIn) (rInD true) := by
  intro pins s σ H x y v u Q I rx ry h
  obtain ⟨a, o, rfl, g, q⟩ := h
  obtain rfl : u = Value.ref a := ry
  exact d_notIn hu I g rx fun s3 I3 => ⟨.bl (!o.isSome), H, I3, rfl, q⟩
def rInA (K : PySem.W.Frag) : R2 := fun x y H Q => rInD false x y H Q ∨ rInS x y H Q ∨ rIn K false x y H Q
def rNotInA (K : PySem.W.Frag) : R2 := fun x y H Q => rInD true x y H Q ∨ rNotInS x y H Q ∨ rIn K true x y H Q
theorem op_inA (hu : X.A.units + 1 < cLine) : OpR X (compareOp .In) (rInA X.K) := (op_inDict hu).or (op_inS.or op_in_seq)
theorem op_notInA (hu : X.A.units + 1 < cLine) : OpR X (compareOp .NotIn) (rNotInA X.K) := (op_notInDict hu).or (op_notInS.or op_notIn_seq)
theorem flat_of {K : PySem.W.Frag} {ρ : List Addr} {H : Hp} {v : V} {d : D} (q : DV K ρ H v d) : flatV v = flatD d := by cases q <;> rfl
theorem flats_of {K : PySem.W.Frag} {ρ : List Addr} {H : Hp} : ∀ {vs : List V} {ds : List D}, DVs K ρ H vs ds → vs.all flatV = ds.all flatD
  | _, _, .nil => rfl
  | _, _, .cons h r => by rw [List.all_cons, List.all_cons, flat_of h, flats_of r]
theorem eqF_of {K : PySem.W.Frag} {ρ : List Addr} {H : Hp} {v w : V} {d e : D} (q : DV K ρ H v d) (r : DV K ρ H w e) : eqV v w = eqF d e := by
  cases q <;> cases r <;> rfl
theorem inD_of {K : PySem.W.Frag} {ρ : List Addr} {H : Hp} {v : V} {d : D} (q : DV K ρ H v d) : ∀ {vs : List V} {ds : List D}, DVs K ρ H vs ds → inV v vs = inD d ds
  | _, _, .nil => rfl
  | _, _, .cons h r => by
    show (eqV _ v || inV v _) = (eqF _ d || inD d _)
    rw [eqF_of h q, inD_of q r]
theorem dct_of {p : Pm} {ρ : List Addr} {h : Hs} {Hb H : Hp} {v : V} {r : R} {kd : List (Key × D)} (hr : HR p ρ h H) (q : RV p ρ Hb H v r) (e : dctOf r h = some kd) : ∃ a ks, v = .ref a ∧ H a = some (.dK ks) ∧ KD p.K ρ H ks kd := by
  cases r with
  | d x =>
    cases x with
    | ref j =>
      cases q with
      | ref hj =>
        simp only [dctOf] at e
        cases ho : h[j]? with
        | none => rw [ho] at e; cases e
        | some o =>
          rw [ho] at e
          have m := hr.ob j _ o hj ho
          cases o with
          | dct xs => cases e; obtain ⟨vs, e1, e2⟩ := m; exact ⟨_, vs, rfl, e1, e2⟩
          | _ => cases e
    | _ => cases e
  | new k =>
    obtain ⟨a, rfl, _, _, m⟩ := q
    cases k with
    | dct xs => cases e; obtain ⟨vs, e1, e2⟩ := m; exact ⟨a, vs, rfl, e1, e2⟩
    | _ => cases e
  | bor k =>
    obtain ⟨a, rfl, m⟩ := q
    cases k with
    | dct xs => cases e; obtain ⟨vs, e1, e2, _⟩ := m; exact ⟨a, vs, rfl, e2, e1⟩
    | _ => cases e
theorem look_of {K : PySem.W.Frag} {ρ : List Addr} {H : Hp} (k : Key) : ∀ {ks : List (Key × V)} {kd : List (Key × D)}, KD K ρ H ks kd →
    (∀ d, lookD kd k = some d → ∃ v, valV ks k = some v ∧ DV K ρ H v d) ∧ (lookD kd k = none → valV ks k = none)
  | [], [], _ => ⟨fun d e => by simp [lookD] at e, fun _ => by simp [valV]⟩
  | [], _ :: _, ⟨e, _⟩ => by simp at e
  | _ :: _, [], ⟨e, _⟩ => by simp at e
  | (k1, v1) :: ks, (k2, d2) :: kd, ⟨e, r⟩ => by
    simp only [List.map_cons, List.cons.injEq] at e
    obtain ⟨e1, e2⟩ := e
    subst e1
    cases r with
    | cons h r =>
      obtain ⟨i1, i2⟩ := look_of k (ks := ks) (kd := kd) ⟨e2, r⟩
      by_cases hk : k1 = k
      · subst hk
        refine ⟨fun d e => ?_, fun e => ?_⟩
        · simp [lookD] at e; subst e; exact ⟨v1, by simp [valV], h⟩
        · simp [lookD] at e
      · refine ⟨fun d e => ?_, fun e => ?_⟩
        · obtain ⟨v, h1, h2⟩ := i1 d (by simpa [lookD, hk] using e)
          exact ⟨v, by simpa [valV, hk] using h1, h2⟩
        · have := i2 (by simpa [lookD, hk] using e)
          simpa [valV, hk] using this
theorem key_of' {K : PySem.W.Frag} {ρ : List Addr} {H : Hp} {v : V} {d : D} {k : Key} (q : DV K ρ H v d) (e : keyD d = some k) : v = kV k := by
  cases q <;> cases e <;> rfl
theorem inR_of {p : Pm} {ρ : List Addr} {h : Hs} {Ha Hb H : Hp} {x y : V} {a b : R} {k : Bool} (hr : HR p ρ h H) (qa : RV p ρ Ha H x a) (qb : RV p ρ Hb H y b) (e : inR a b h = some k) :
    (∃ z o, y = .ref z ∧ DGet H z x o ∧ o.isSome = k) ∨ (∃ (n : Nat) (z : Str), x = .str ⟨#[n]⟩ ∧ y = .str z ∧ decide (n ∈ z.cps.toList) = k) ∨
    (∃ z xs, y = .ref z ∧ (SqL p.K H z xs ∨ SqT p.K H z xs) ∧ flatV x = true ∧ xs.all flatV = true ∧ inV x xs = k) := by
  unfold inR at e
  cases hd : dctOf b h with
  | some kd =>
    rw [hd] at e
    cases a with
    | d u =>
      simp only at e
      cases hk : keyD u with
      | none => rw [hk] at e; cases e
      | some ky =>
        rw [hk] at e; cases e
        obtain ⟨z, ks, rfl, h1, h2⟩ := dct_of hr qb hd
        have ex := key_of' qa hk
        subst ex
        refine .inl ⟨z, _, rfl, DGet.k h1, ?_⟩
        obtain ⟨i1, i2⟩ := look_of ky h2
        cases hl : lookD kd ky with
        | none => rw [i2 hl]; rfl
        | some w => obtain ⟨v, h3, _⟩ := i1 w hl; rw [h3]; rfl
    | _ => cases e
  | none =>
    rw [hd] at e
    cases hs : strOf b with
    | some z =>
      rw [hs] at e
      have ey := str_of qb hs
      subst ey
      simp only at e
      split at e
      · cases e
        cases qa
        exact .inr (.inl ⟨_, _, rfl, rfl, rfl⟩)
      · cases e
    | none =>
      rw [hs] at e
      cases a with
      | d u =>
        simp only at e
        cases hq : seqOf b h with
        | none => rw [hq] at e; cases e
        | some xs =>
          rw [hq] at e
          simp only at e
          split at e
          · rename_i hf
            cases e
            obtain ⟨z, vs, rfl, h1, h2⟩ := seq_of hr qb hq
            exact .inr (.inr ⟨z, vs, rfl, h1, by rw [flat_of qa]; exact hf.1, by rw [flats_of h2]; exact hf.2, inD_of qa h2⟩)
          · cases e
      | _ => cases e
theorem p2_in : P2 X c (rInA X.K) gIn := by
  intro ρ h H Ha Hb x y a b Q hr tb qa qb e
  unfold gIn at e
  cases k : inR a b h with
  | none => rw [k] at e; exact e.elim
  | some k' =>
    rw [k] at e
    have q := fin_d hr tb e (.bl k')
    rcases inR_of hr qa qb k with ⟨z, o, h1, h2, h3⟩ | ⟨n, z, h1, h2, h3⟩ | ⟨z, xs, h1, h2, h3, h4, h5⟩
    · exact .inl ⟨z, o, h1, h2, by rw [if_neg (by decide), h3]; exact q⟩
    · exact .inr (.inl ⟨n, z, h1, h2, by rw [h3]; exact q⟩)
    · exact .inr (.inr ⟨z, xs, h1, h2, h3, h4, by rw [if_neg (by decide), h5]; exact q⟩)
theorem p2_notIn : P2 X c (rNotInA X.K) gNotIn := by
  intro ρ h H Ha Hb x y a b Q hr tb qa qb e
  unfold gNotIn at e
  cases k : inR a b h with
  | none => rw [k] at e; exact e.elim
  | some k' =>
    rw [k] at e
    have q := fin_d hr tb e (.bl (!k'))
    rcases inR_of hr qa qb k with ⟨z, o, h1, h2, h3⟩ | ⟨n, z, h1, h2, h3⟩ | ⟨z, xs, h1, h2, h3, h4, h5⟩
    · exact .inl ⟨z, o, h1, h2, by rw [if_pos rfl, h3]; exact q⟩
    · exact .inr (.inl ⟨n, z, h1, h2, by rw [h3]; exact q⟩)
    · exact .inr (.inr ⟨z, xs, h1, h2, h3, h4, by rw [if_pos rfl, h5]; exact q⟩)
end
end Sh
set_option Elab.async false
set_option linter.all false
set_option maxRecDepth 100000
namespace Sh
open PySem PySem.Spec PyProof.Rows L2

section
variable {X : Cx} {c : Cc} {e a b : Expr} {fa fb : EX} {pos : Pos}
/-! ### subscripts -/
def gIx : P2f := fun a b h => match dctOf a h with
  | some kd => match b with
    | .d x => match keyD x with
      | some k => (lookD kd k).map R.d
      | none => none
    | _ => none
  | none => match seqOf a h, intOf b with
    | some xs, some i => (atI xs i).map R.d
    | none, some i => match strOf a with
      | some z => if z.length ≤ sizeLine then (atI z.cps.toList i).map fun n => .d (.str ⟨#[n]⟩) else none
      | none => none
    | _, _ => none
def rIxDc : R2 := fun x y H Q => ∃ p v, x = .ref p ∧ DGet H p y (some v) ∧ Q v H
theorem ix_dict (hu : X.A.units + 1 < cLine) : IxR X rIxDc := by
  intro value slice pins s σ H x y v u Q I rx ry h hs
  obtain ⟨p, r, rfl, g, q⟩ := h
  obtain rfl : v = Value.ref p := rx
  exact tail_any (dict_typeIs I g) PySem.F.slot_dict_getitem.lookup (d_getItem hu I g ry fun w' s3 I3 rw' => ⟨r, H, I3, rw', q⟩) hs
def rIxA (K : PySem.W.Frag) : R2 := fun x y H Q => rIxDc x y H Q ∨ rIx K x y H Q
theorem ix_any (hu : X.A.units + 1 < cLine) : IxR X (rIxA X.K) := (ix_dict hu).or ix_seq
theorem atI_of {K : PySem.W.Frag} {ρ : List Addr} {H : Hp} {vs : List V} {ds : List D} {i : Int} {d : D} (r : DVs K ρ H vs ds) (e : atI ds i = some d) : ∃ v, atI vs i = some v ∧ DV K ρ H v d := by
  unfold atI at e ⊢
  rw [r.length]
  cases hj : ixN ds.length i with
  | none => rw [hj] at e; cases e
  | some j =>
    rw [hj] at e
    exact r.get' e
theorem p2_ix : P2 X c (rIxA X.K) gIx := by
  intro ρ h H Ha Hb x y a b Q hr tb qa qb e
  unfold gIx at e
  cases hd : dctOf a h with
  | some kd =>
    rw [hd] at e
    cases b with
    | d u =>
      simp only at e
      cases hk : keyD u with
      | none => rw [hk] at e; exact e.elim
      | some ky =>
        rw [hk] at e
        simp only at e
        obtain ⟨z, ks, rfl, h1, h2⟩ := dct_of hr qa hd
        have ey := key_of' qb hk
        subst ey
        cases hl : lookD kd ky with
        | none => rw [hl] at e; exact e.elim
        | some w =>
          rw [hl] at e
          obtain ⟨v, h3, h4⟩ := (look_of ky h2).1 w hl
          exact .inl ⟨z, v, rfl, by rw [← h3]; exact DGet.k h1, fin_d hr tb e h4⟩
    | _ => exact e.elim
  | none =>
    rw [hd] at e
    cases hi : intOf b with
    | none => rw [hi] at e; cases hq : seqOf a h <;> (rw [hq] at e; exact e.elim)
    | some i =>
      rw [hi] at e
      have ey := int_of qb hi
      subst ey
      cases hq : seqOf a h with
      | some xs =>
        rw [hq] at e
        simp only at e
        obtain ⟨z, vs, rfl, h1, h2⟩ := seq_of hr qa hq
        cases ha : atI xs i with
        | none => rw [ha] at e; exact e.elim
        | some w =>
          rw [ha] at e
          obtain ⟨v, h3, h4⟩ := atI_of h2 ha
          have q := fin_d hr tb e h4
          rcases h1 with h1 | h1
          · exact .inr (.inl ⟨z, vs, i, v, rfl, rfl, h1, h3, q⟩)
          · exact .inr (.inr (.inl ⟨z, vs, i, v, rfl, rfl, h1, h3, q⟩))
      | none =>
        rw [hq] at e
        simp only at e
        cases hs : strOf a with
        | none => rw [hs] at e; exact e.elim
        | some z =>
          rw [hs] at e
          have ex := str_of qa hs
          subst ex
          simp only at e
          split at e
          · cases ha : atI z.cps.toList i with
            | none => rw [ha] at e; exact e.elim
            | some w =>
              rw [ha] at e
              exact .inr (.inr (.inr ⟨z, i, w, rfl, rfl, by assumption, ha, fin_d hr tb e (.str _)⟩))
          · exact e.elim

/-! ### slices -/
def cutD (xs : List D) (lo hi : Option Int) : List D := (xs.drop (HT.sIx xs.length 0 lo)).take (HT.sIx xs.length xs.length hi - HT.sIx xs.length 0 lo)
theorem cut_of {K : PySem.W.Frag} {ρ : List Addr} {H : Hp} {vs : List V} {ds : List D} (r : DVs K ρ H vs ds) (lo hi : Option Int) : DVs K ρ H (cutV vs lo hi) (cutD ds lo hi) := by
  unfold cutV cutD
  rw [r.length]
  exact (r.drop _).take _
def gSl (a : R) (lo hi : Option Int) (h : Hs) : Option R := match lstOf a h, tupOf a, strOf a with
  | some xs, _, _ => some (.new (.lst (cutD xs lo hi)))
  | none, some xs, _ => some (.d (.tup (cutD xs lo hi)))
  | none, none, some z => if z.length ≤ sizeLine then some (.d (.str (cutS z lo hi))) else none
  | _, _, _ => none
def rSlAll (K : PySem.W.Frag) : V → Option Int → Option Int → Hp → VK → Prop := fun x lo hi H Q => rSlL K x lo hi H Q ∨ rSlA K x lo hi H Q ∨ rSlS x lo hi H Q
theorem sl_all : SlR X (rSlAll X.K) := sl_list.or (sl_tupA.or sl_str)
theorem cut_whole {xs : List D} {lo hi : Option Int} (h : HT.sIx xs.length 0 lo = 0 ∧ HT.sIx xs.length xs.length hi = xs.length) : cutD xs lo hi = xs := by
  unfold cutD
  rw [h.1, h.2]
  simp
theorem psl : ∀ ρ h H Ha x a lo hi Q, HR (c.p X.K) ρ h H → LamX.Tabs c.T H → RV (c.p X.K) ρ Ha H x a → Fin' (c.p X.K) ρ h H (gSl a lo hi h) Q → rSlAll X.K x lo hi H Q := by
  intro ρ h H Ha x a lo hi Q hr tb qa e
  unfold gSl at e
  cases hl : lstOf a h with
  | some xs =>
    rw [hl] at e
    obtain ⟨z, vs, rfl, h1, h2⟩ := lst_of hr qa hl
    exact .inl ⟨z, vs, rfl, SqL.of h1, fun p hp => new_lst hr tb (cut_of h2 lo hi) hp e⟩
  | none =>
    rw [hl] at e
    cases ht : tupOf a with
    | some xs =>
      rw [ht] at e
      obtain ⟨z, vs, rfl, h1, h2⟩ := tup_of qa ht
      refine .inr (.inl ⟨z, vs, rfl, h1, fun hw => ?_, fun _ p hp => new_tup hr tb (cut_of h2 lo hi) hp e⟩)
      rw [h2.length] at hw
      have e : Fin' (c.p X.K) ρ h H (some (.d (.tup (cutD xs lo hi)))) Q := e
      rw [cut_whole hw] at e
      exact fin_d hr tb e (.tup h1 h2)
    | none =>
      rw [ht] at e
      cases hs : strOf a with
      | none => rw [hs] at e; exact e.elim
      | some z =>
        rw [hs] at e
        have ex := str_of qa hs
        subst ex
        simp only at e
        split at e
        · exact .inr (.inr ⟨z, rfl, by assumption, fin_d hr tb e (.str _)⟩)
        · exact e.elim
/-- a part of a slice -/
abbrev OX := Env' → Hs → Option (Rs (Option Int))
abbrev Oq : List Addr → Hp → Hp → Option Int → Option Int → Prop := fun _ _ _ b a => b = a
def tO (K : PySem.W.Frag) (c : Cc) (f : OX) : TO := fun σ H Q => ∃ G ρ S h, Stt (c.p K) c.ρ0 c.H0 G ρ S h σ H ∧ Ed (c.p K) (fun cls d H' => c.W cls d σ H') ρ H (f S h) Oq Q
abbrev CO (X : Cx) (c : Cc) (e : Option Expr) (f : OX) : Prop := PO X e (tO X.K c f)
def oNone : OX := fun _ h => some (.ok none h)
def oSome (f : EX) : OX := fun S h => andThen (f S h) fun r h1 => match intOf r with
  | some i => some (.ok (some i) h1)
  | none => none
theorem po_weak {e : Option Expr} {t t' : TO} (he : PO X e t) (h : ∀ σ H Q, t' σ H Q → t σ H Q) : PO X e t' := by
  refine ⟨?_⟩
  intro pins s σ H Q I q
  exact he.run pins s σ H Q I (h σ H Q q)
theorem co_none : CO X c none oNone := by
  refine po_weak po_none fun σ H Q q => ?_
  obtain ⟨G, ρ, S, h, s, e⟩ := q
  exact e ρ H none (.refl s.hr s.tb) rfl
theorem co_some {f : EX} (he : CE X c e f) : CO X c (some e) (oSome f) := by
  refine po_weak (po_some he) fun σ H Q q => ?_
  obtain ⟨G, ρ, S, h, s, e⟩ := q
  refine ⟨G, ρ, S, h, s, e.bind (rel := RV (c.p X.K)) fun r h1 ρ1 H1 x n1 rx e1 => ?_⟩
  cases hi : intOf r with
  | none => rw [hi] at e1; exact e1.elim
  | some i => rw [hi] at e1; exact ⟨i, int_of rx hi, e1 ρ1 H1 (some i) n1 rfl⟩
def xSl (f : EX) (lo hi : OX) : EX := fun S h => andThen (f S h) fun a h1 => andThen (lo S h1) fun l h2 => andThen (hi S h2) fun u h3 => lift (gSl a l u h3) h3
theorem ce_slice {lo hi : Option Expr} {p2 : Pos} {f : EX} {fl fh : OX} (he : CE X c e f) (hl : CO X c lo fl) (hh : CO X c hi fh) : CE X c (.Subscript e (.Slice lo hi none p2) pos) (xSl f fl fh) := by
  refine pe_weak (pe_slice sl_all he hl hh) fun σ H Q q => ?_
  obtain ⟨G, ρ, S, h, s, e⟩ := q
  refine ⟨G, ρ, S, h, s, e.bind (rel := RV (c.p X.K)) fun a h1 ρ1 H1 x n1 rx e1 => ?_⟩
  refine ⟨G, ρ1, S, h1, s.nx n1, e1.bindAt n1 (rel := Oq) fun l h2 ρ2 H2 y n2 ry e2 => ?_⟩
  have n12 := n1.trans n2
  refine ⟨G, ρ2, S, h2, s.nx n12, e2.bindAt n12 (rel := Oq) fun u h3 ρ3 H3 z n3 rz e3 => ?_⟩
  cases ry
  cases rz
  have n := n12.trans n3
  exact psl ρ3 h3 H3 _ x a l u Q n.hr n.tb ((rx.nx n2 n1.hr).nx n3 n2.hr) (e3.later n fun _ _ _ _ z => z.back n s.hr).fin

/-! ### calls of what is built in -/
abbrev PNf := List R → Hs → Option R
def PN (X : Cx) (c : Cc) (r : List V → Hp → VK → Prop) (g : PNf) : Prop := ∀ ρ h H Ha vs rs Q, HR (c.p X.K) ρ h H → LamX.Tabs c.T H → RVs (c.p X.K) ρ Ha H vs rs → Fin' (c.p X.K) ρ h H (g rs h) Q → r vs H Q
def opN (g : PNf) (f : AX) : EX := fun S h => andThen (f S h) fun rs h1 => lift (g rs h1) h1
theorem tE_cb {r : List V → Hp → VK → Prop} {g : PNf} {f : AX} (hp : PN X c r g) (σ : L2.St) (H : Hp) (Q : VK) (q : tE X.K c (opN g f) σ H Q) : tCB r (tA X.K c f) σ H Q := by
  obtain ⟨G, ρ, S, h, s, e⟩ := q
  refine ⟨G, ρ, S, h, s, e.bind (rel := RVs (c.p X.K)) fun rs h1 ρ1 H1 xs n1 rx e1 => ?_⟩
  exact hp ρ1 h1 H1 _ xs rs Q n1.hr n1.tb rx (e1.later n1 fun _ _ _ _ z => z.back n1 s.hr).fin
theorem ce_callB {x : Str} {p : Pos} {id : String} {es : List Expr} {r : List V → Hp → VK → Prop} {g : PNf} {f : AX} (hc : CallR X (.builtin id) r) (hp : PN X c r g) (hg : Gl X x) (hm : X.mg x = none) (hv : bootBuiltins x = some (.builtin id)) (ha : CA X c (e :: es) f) (hn : x ≠ "__name__" := by decide)
    (hdb : (x == ("__debug__" : Str)) = false := by decide) (he : starEach (e :: es) X.env = (false, eval e X.env) :: starEach es X.env := by rfl) (hpl : (backTo pos (starEach es X.env)).any (·.1) = false := by rfl) : CE X c (.Call (.Name x p) (e :: es) [] pos) (opN g f) :=
  pe_weak (pe_callB hc hg hm hv ha hn hdb he hpl) (tE_cb hp)
theorem ce_callTy {x : Str} {p : Pos} {T : String} {es : List Expr} {r : List V → Hp → VK → Prop} {g : PNf} {f : AX} (hc : CallR X (.type T) r) (hp : PN X c r g) (hg : Gl X x) (hm : X.mg x = none) (hv : bootBuiltins x = some (.type T)) (ha : CA X c (e :: es) f) (hn : x ≠ "__name__" := by decide)
    (hdb : (x == ("__debug__" : Str)) = false := by decide) (he : starEach (e :: es) X.env = (false, eval e X.env) :: starEach es X.env := by rfl) (hpl : (backTo pos (starEach es X.env)).any (·.1) = false := by rfl) : CE X c (.Call (.Name x p) (e :: es) [] pos) (opN g f) :=
  pe_weak (pe_callTy hc hg hm hv ha hn hdb he hpl) (tE_cb hp)

theorem RVs.one {p : Pm} {ρ : List Addr} {Hb H : Hp} {vs : List V} {r : R} (q : RVs p ρ Hb H vs [r]) : ∃ v, vs = [v] ∧ RV p ρ Hb H v r := by
  cases q with
  | cons h t => cases t; exact ⟨_, rfl, h⟩
theorem RVs.two {p : Pm} {ρ : List Addr} {Hb H : Hp} {vs : List V} {r r' : R} (q : RVs p ρ Hb H vs [r, r']) : ∃ v w, vs = [v, w] ∧ RV p ρ Hb H v r ∧ RV p ρ Hb H w r' := by
  cases q with
  | cons h t => obtain ⟨w, rfl, h2⟩ := RVs.one t; exact ⟨_, w, rfl, h, h2⟩
/-- a prim of one argument -/
def g1 (g : R → Hs → Option R) : PNf := fun rs h => match rs with
  | [a] => g a h
  | _ => none
theorem pn1 {r : List V → Hp → VK → Prop} {g : R → Hs → Option R} (hp : ∀ ρ h H Ha v a Q, HR (c.p X.K) ρ h H → LamX.Tabs c.T H → RV (c.p X.K) ρ Ha H v a → Fin' (c.p X.K) ρ h H (g a h) Q → r [v] H Q) : PN X c r (g1 g) := by
  intro ρ h H Ha vs rs Q hr tb q e
  cases rs with
  | nil => exact e.elim
  | cons a rs =>
    cases rs with
    | nil =>
      obtain ⟨v, ev, q1⟩ := q.one
      subst ev
      exact hp ρ h H Ha v a Q hr tb q1 e
    | cons _ _ => exact e.elim
def g2 (g : R → R → Hs → Option R) : PNf := fun rs h => match rs with
  | [a, b] => g a b h
  | _ => none
theorem pn2 {r : List V → Hp → VK → Prop} {g : R → R → Hs → Option R} (hp : ∀ ρ h H Ha v w a b Q, HR (c.p X.K) ρ h H → LamX.Tabs c.T H → RV (c.p X.K) ρ Ha H v a → RV (c.p X.K) ρ Ha H w b → Fin' (c.p X.K) ρ h H (g a b h) Q → r [v, w] H Q) : PN X c r (g2 g) := by
  intro ρ h H Ha vs rs Q hr tb q e
  cases rs with
  | nil => exact e.elim
  | cons a rs =>
    cases rs with
    | nil => exact e.elim
    | cons b rs =>
      cases rs with
      | nil =>
        obtain ⟨v, w, rfl, q1, q2⟩ := q.two
        exact hp ρ h H Ha v w a b Q hr tb q1 q2 e
      | cons _ _ => exact e.elim
/-- len -/
def gLen (a : R) (h : Hs) : Option R := match dctOf a h, seqOf a h, strOf a with
  | some kd, _, _ => some (.d (.int kd.length))
  | none, some xs, _ => some (.d (.int xs.length))
  | none, none, some z => if z.length ≤ sizeLine then some (.d (.int z.length)) else none
  | _, _, _ => none
def rLenA (K : PySem.W.Frag) : List V → Hp → VK → Prop := fun xs H Q => (∃ a kvs, xs = [V.ref a] ∧ H a = some (.dK kvs) ∧ Q (.int kvs.length) H) ∨ (∃ x n, xs = [x] ∧ LenV K x H n ∧ Q (.int n) H)
theorem call_lenA : CallR X (.builtin "len") (rLenA X.K) := call_lenD.or call_len
theorem KD.length {K : PySem.W.Frag} {ρ : List Addr} {H : Hp} {ks : List (Key × V)} {kd : List (Key × D)} (r : KD K ρ H ks kd) : ks.length = kd.length := by
  have := congrArg List.length r.1
  simpa using this
theorem pn_len : PN X c (rLenA X.K) (g1 gLen) := pn1 fun ρ h H Ha v a Q hr tb q e => by
  unfold gLen at e
  cases hd : dctOf a h with
  | some kd =>
    rw [hd] at e
    obtain ⟨z, ks, rfl, h1, h2⟩ := dct_of hr q hd
    exact .inl ⟨z, ks, rfl, h1, by rw [h2.length]; exact fin_d hr tb e (.int _)⟩
  | none =>
    rw [hd] at e
    cases hq : seqOf a h with
    | some xs =>
      rw [hq] at e
      obtain ⟨z, vs, rfl, h1, h2⟩ := seq_of hr q hq
      refine .inr ⟨_, vs.length, rfl, ?_, by rw [h2.length]; exact fin_d hr tb e (.int _)⟩
      rcases h1 with h1 | h1
      · exact .inl ⟨vs, h1, rfl⟩
      · exact .inr ⟨vs, h1, rfl⟩
    | none =>
      rw [hq] at e
      cases hs : strOf a with
      | none => rw [hs] at e; exact e.elim
      | some z =>
        rw [hs] at e
        have ex := str_of q hs
        subst ex
        simp only at e
        split at e
        · exact .inr ⟨_, _, rfl, ⟨by assumption, rfl⟩, fin_d hr tb e (.int _)⟩
        · exact e.elim
/-- int, abs -/
def gInt (a : R) (_ : Hs) : Option R := match a with
  | .d (.int i) => some (.d (.int i))
  | .d (.bl b) => some (.d (.int (if b then 1 else 0)))
  | _ => none
theorem pn_int : PN X c (fun xs H Q => (∃ i, xs = [.int i] ∧ Q (.int i) H) ∨ ∃ k, xs = [.bl k] ∧ Q (.int (if k then 1 else 0)) H) (g1 gInt) := pn1 fun ρ h H Ha v a Q hr tb q e => by
  unfold gInt at e
  cases a with
  | d x =>
    cases x with
    | int i => cases q; exact .inl ⟨i, rfl, fin_d hr tb e (.int _)⟩
    | bl i => cases q; exact .inr ⟨i, rfl, fin_d hr tb e (.int _)⟩
    | _ => exact e.elim
  | _ => exact e.elim
def gAbs (a : R) (_ : Hs) : Option R := match intOf a with
  | some i => some (.d (.int (if i < 0 then -i else i)))
  | none => none
theorem pn_abs : PN X c (fun xs H Q => ∃ i, xs = [.int i] ∧ Q (.int (if i < 0 then -i else i)) H) (g1 gAbs) := pn1 fun ρ h H Ha v a Q hr tb q e => by
  unfold gAbs at e
  cases hi : intOf a with
  | none => rw [hi] at e; exact e.elim
  | some i => rw [hi] at e; exact ⟨i, by rw [int_of q hi], fin_d hr tb e (.int _)⟩
def gStr (a : R) (_ : Hs) : Option R := match intOf a with
  | some i => if i.natAbs.log2 < 1920 then some (.d (.str (toString i))) else none
  | none => none
theorem pn_str : PN X c (fun xs H Q => ∃ i : Int, xs = [.int i] ∧ i.natAbs.log2 < 1920 ∧ Q (.str (toString i)) H) (g1 gStr) := pn1 fun ρ h H Ha v a Q hr tb q e => by
  unfold gStr at e
  cases hi : intOf a with
  | none => rw [hi] at e; exact e.elim
  | some i =>
    rw [hi] at e
    simp only at e
    split at e
    · exact ⟨i, by rw [int_of q hi], by assumption, fin_d hr tb e (.str _)⟩
    · exact e.elim
/-- type -/
def tyR (a : R) (h : Hs) : Option String := match a with
  | .d .non => some "NoneType"
  | .d (.bl _) => some "bool"
  | .d (.int _) => some "int"
  | .d (.str _) => some "str"
  | .d (.tup _) => some "tuple"
  | a => match dctOf a h, seqOf a h with
    | some _, _ => some "dict"
    | none, some _ => some "list"
    | _, _ => none
theorem ty_of {p : Pm} {ρ : List Addr} {h : Hs} {Hb H : Hp} {v : V} {r : R} {T : String} (hr : HR p ρ h H) (q : RV p ρ Hb H v r) (e : tyR r h = some T) : TyB p.K H v T := by
  have rest : (∀ xs, r ≠ .d (.tup xs)) → (match dctOf r h, seqOf r h with
    | some _, _ => some "dict"
    | none, some _ => some "list"
    | _, _ => none) = some T → TyB p.K H v T := fun nt e => by
    cases hd : dctOf r h with
    | some kd =>
      rw [hd] at e
      obtain ⟨z, ks, rfl, h1, h2⟩ := dct_of hr q hd
      cases e
      exact .dK h1
    | none =>
      rw [hd] at e
      cases hq : seqOf r h with
      | none => rw [hq] at e; cases e
      | some xs =>
        rw [hq] at e
        cases e
        cases hl : lstOf r h with
        | some ys =>
          obtain ⟨z, vs, rfl, h1, h2⟩ := lst_of hr q hl
          exact .lst (SqL.of h1)
        | none =>
          cases r with
          | d x =>
            cases x with
            | tup xs => exact absurd rfl (nt xs)
            | ref j => rw [show seqOf (.d (.ref j)) h = lstOf (.d (.ref j)) h from rfl, hl] at hq; cases hq
            | _ => cases hq
          | new k => rw [show seqOf (.new k) h = lstOf (.new k) h from rfl, hl] at hq; cases hq
          | bor k =>
            cases k with
            | fz ys =>
              obtain ⟨a, rfl, vs, e1, e2 | ⟨⟨o, e2⟩, _⟩⟩ := q
              · exact .lst (.inr e2)
              · exact .lst (.inl (.inr ⟨o, e2⟩))
            | lst ys => cases hl
            | dct ys => cases hd
  cases r with
  | d x =>
    cases x with
    | non => cases e; cases q; exact .non
    | bl b => cases e; cases q; exact .bl b
    | int b => cases e; cases q; exact .int b
    | str b => cases e; cases q; exact .str b
    | tup xs => cases e; obtain ⟨z, vs, rfl, h1, h2⟩ := tup_of q rfl; exact .tup h1
    | ty n => exact rest (fun _ z => by cases z) e
    | ref j => exact rest (fun _ z => by cases z) e
  | new k => exact rest (fun _ z => by cases z) e
  | bor k => exact rest (fun _ z => by cases z) e
def gTy (a : R) (h : Hs) : Option R := match tyR a h with
  | some T => some (.d (.ty T))
  | none => none
theorem pn_type : PN X c (rTyp X.K) (g1 gTy) := pn1 fun ρ h H Ha v a Q hr tb q e => by
  unfold gTy at e
  cases ht : tyR a h with
  | none => rw [ht] at e; exact e.elim
  | some T => rw [ht] at e; exact ⟨v, T, rfl, ty_of hr q ht, fin_d hr tb e (.ty _)⟩
/-- isinstance of a built-in type -/
def gIsi (a b : R) (h : Hs) : Option R := match tyR a h, b with
  | some T, .d (.ty n) => (kitB T n).map fun k => .d (.bl k)
  | _, _ => none
theorem tyx_of {K : PySem.W.Frag} {H : Hp} {v : V} {T : String} (t : TyB K H v T) : TyX K H v (.type T) := by
  cases t with
  | non => exact .base .non
  | bl b => exact .base (.bl b)
  | int b => exact .base (.int b)
  | str b => exact .base (.str b)
  | byt b => exact .byt b
  | lst h =>
    rcases h with (h | ⟨o, h⟩) | ⟨o, its, n, e, c, _⟩
    · exact .base (.lst h)
    · exact .base (.frz h)
    · exact .kList e c
  | tup h =>
    rcases h with (h | ⟨o, h⟩) | ⟨o, its, n, e, c, _⟩
    · exact .base (.tup h)
    · exact .fTuple h
    · exact .kTuple e c
  | dK h => exact .base (.dK h)
theorem pn_isi : PN X c (rIsi X.K) (g2 gIsi) := pn2 fun ρ h H Ha v w a b Q hr tb q1 q2 e => by
  unfold gIsi at e
  cases ht : tyR a h with
  | none => rw [ht] at e; exact e.elim
  | some T =>
    rw [ht] at e
    cases b with
    | d x =>
      cases x with
      | ty n =>
        simp only at e
        cases hk : kitB T n with
        | none => rw [hk] at e; exact e.elim
        | some k =>
          rw [hk] at e
          cases q2
          exact ⟨v, _, _, _, k, rfl, .ty n, tyx_of (ty_of hr q1 ht), kit_ty hk, fin_d hr tb e (.bl _)⟩
      | _ => exact e.elim
    | _ => exact e.elim
/-- a built-in type as a value -/
theorem ce_ty {x : Str} {T : String} (hg : Gl X x) (hm : X.mg x = none) (hv : bootBuiltins x = some (.type T)) (hn : x ≠ "__name__" := by decide) (hd : (x == ("__debug__" : Str)) = false := by decide) : CE X c (.Name x pos) (xC (.ty T)) :=
  ce_const (pe_bltn hg hm hv (v := .ty T) rfl hn hd) fun _ _ => .ty T
/-- a constant of the module -/
theorem ce_glob {x : Str} {v : V} {u : Value} {d : D} (hg : Gl X x) (hm : X.mg x = some u) (r : RelV v u) (hv : ∀ ρ H, DV X.K ρ H v d) (hd : (x == ("__debug__" : Str)) = false := by decide) : CE X c (.Name x pos) (xC d) := ce_const (pe_glob hg hm r hd) hv
/-- tuple(x), list(x) -/
def gTuple (a : R) (h : Hs) : Option R := match seqOf a h with
  | some xs => some (.d (.tup xs))
  | none => none
def gList (a : R) (h : Hs) : Option R := match seqOf a h with
  | some xs => some (.new (.lst xs))
  | none => none
theorem pn_tuple : PN X c (fun xs H Q => ∃ p ys, xs = [.ref p] ∧ ((SqL X.K H p ys ∧ ∀ l, H l = none → Q (.ref l) (upd H l (.tup ys))) ∨ (SqT X.K H p ys ∧ Q (.ref p) H))) (g1 gTuple) := pn1 fun ρ h H Ha v a Q hr tb q e => by
  unfold gTuple at e
  cases hq : seqOf a h with
  | none => rw [hq] at e; exact e.elim
  | some xs =>
    rw [hq] at e
    obtain ⟨z, vs, rfl, h1, h2⟩ := seq_of hr q hq
    refine ⟨z, vs, rfl, ?_⟩
    rcases h1 with h1 | h1
    · exact .inl ⟨h1, fun l hl => new_tup hr tb h2 hl e⟩
    · exact .inr ⟨h1, fin_d hr tb e (.tup h1 h2)⟩
theorem pn_list : PN X c (fun xs H Q => ∃ p ys, xs = [.ref p] ∧ (SqL X.K H p ys ∨ SqT X.K H p ys) ∧ ∀ l, H l = none → Q (.ref l) (upd H l (.lst ys))) (g1 gList) := pn1 fun ρ h H Ha v a Q hr tb q e => by
  unfold gList at e
  cases hq : seqOf a h with
  | none => rw [hq] at e; exact e.elim
  | some xs =>
    rw [hq] at e
    obtain ⟨z, vs, rfl, h1, h2⟩ := seq_of hr q hq
    exact ⟨z, vs, rfl, h1, fun l hl => new_lst hr tb h2 hl e⟩
/-- x.m(e), x a text -/
def opM1 (g : Str → R → Hs → Option R) (fo fe : EX) : EX := fun S h => andThen (fo S h) fun a h1 => match strOf a with
  | some z => andThen (fe S h1) fun b h2 => lift (g z b h2) h2
  | none => none
theorem ce_m1 {id : String} {name : Str} {apos pos : Pos} {o : Expr} {fo fe : EX} {r : V → List V → Hp → VK → Prop} {g : Str → R → Hs → Option R} (slot : Slot "str" name id) (ty : typeOf (.builtin id) = pure (.type "method_descriptor")) (rule : MtR X id r)
    (hp : ∀ ρ h H Ha z v a Q, HR (c.p X.K) ρ h H → LamX.Tabs c.T H → RV (c.p X.K) ρ Ha H v a → Fin' (c.p X.K) ρ h H (g z a h) Q → r (.str z) [v] H Q) (ho : CE X c o fo) (he : CE X c e fe)
    (hs : starEach [e] X.env = [(false, eval e X.env)] := by rfl) (hbase : attributeBase o name X.env (eval o X.env) = eval o X.env := by rfl) (hline : (apos.endLine == pos.line) = true := by rfl) :
    CE X c (.Call (.Attribute o name apos) [e] [] pos) (opM1 g fo fe) := by
  refine pe_weak (pe_m1 slot ty rule ho he hs hbase hline) fun σ H Q q => ?_
  obtain ⟨G, ρ, S, h, s, e⟩ := q
  refine ⟨G, ρ, S, h, s, e.bind (rel := RV (c.p X.K)) fun a h1 ρ1 H1 x n1 rx e1 => ?_⟩
  cases hz : strOf a with
  | none => simp only [hz] at e1; exact e1.elim
  | some z =>
    have ex := str_of rx hz
    subst ex
    simp only [hz] at e1
    refine ⟨⟨z, rfl⟩, G, ρ1, S, h1, s.nx n1, e1.bindAt n1 (rel := RV (c.p X.K)) fun b h2 ρ2 H2 y n2 ry e2 => ?_⟩
    have n := n1.trans n2
    exact hp ρ2 h2 H2 _ z y b Q n.hr n.tb ry (e2.later n fun _ _ _ _ z => z.back n s.hr).fin
/-- sep.join(texts) -/
def strsD : List D → Option (List Str)
  | [] => some []
  | .str x :: xs => match strsD xs with
    | some ys => some (x :: ys)
    | none => none
  | _ :: _ => none
theorem strs_of {K : PySem.W.Frag} {ρ : List Addr} {H : Hp} : ∀ {vs : List V} {ds : List D} {ys : List Str}, DVs K ρ H vs ds → strsD ds = some ys → vs = ys.map V.str
  | _, _, _, .nil, e => by cases e; rfl
  | _, _, ys, .cons (d := d) (ds := ds) h r, e => by
    cases d with
    | str x =>
      cases q : strsD ds with
      | none => simp only [strsD, q] at e; cases e
      | some zs =>
        simp only [strsD, q] at e; cases e
        cases h
        rw [strs_of r q]; rfl
    | _ => cases e
def gJoin (z : Str) (a : R) (h : Hs) : Option R := match seqOf a h with
  | some xs => match strsD xs with
    | some ys => if (ys.map (·.length)).sum + ys.length * z.length ≤ 16777216 then some (.d (.str (Txt.join z ys))) else none
    | none => none
  | none => none
theorem m_join : ∀ ρ h H Ha z v a Q, HR (c.p X.K) ρ h H → LamX.Tabs c.T H → RV (c.p X.K) ρ Ha H v a → Fin' (c.p X.K) ρ h H (gJoin z a h) Q →
    (fun (x : V) (xs : List V) (H : Hp) (Q : VK) => ∃ a p, ∃ ys : List Str, x = .str a ∧ xs = [.ref p] ∧ (SqL X.K H p (ys.map V.str) ∨ SqT X.K H p (ys.map V.str)) ∧ (ys.map (·.length)).sum + ys.length * a.length ≤ 16777216 ∧ Q (.str (Txt.join a ys)) H) (.str z) [v] H Q := by
  intro ρ h H Ha z v a Q hr tb q e
  unfold gJoin at e
  cases hq : seqOf a h with
  | none => rw [hq] at e; exact e.elim
  | some xs =>
    rw [hq] at e
    simp only at e
    cases hs : strsD xs with
    | none => rw [hs] at e; exact e.elim
    | some ys =>
      rw [hs] at e
      simp only at e
      split at e
      · obtain ⟨w, vs, rfl, h1, h2⟩ := seq_of hr q hq
        have ev := strs_of h2 hs
        subst ev
        exact ⟨z, w, ys, rfl, rfl, h1, by assumption, fin_d hr tb e (.str _)⟩
      · exact e.elim
/-- z.index(sign) -/
def gSIndex (z : Str) (a : R) (_ : Hs) : Option R := match strOf a with
  | some b => match Builtin.Str.occurrences z b 0 z.length 1 with
    | i :: _ => some (.d (.int (i : Nat)))
    | [] => none
  | none => none
theorem m_sindex : ∀ ρ h H Ha z v a Q, HR (c.p X.K) ρ h H → LamX.Tabs c.T H → RV (c.p X.K) ρ Ha H v a → Fin' (c.p X.K) ρ h H (gSIndex z a h) Q →
    (fun (x : V) (xs : List V) (H : Hp) (Q : VK) => ∃ a b i rest, x = .str a ∧ xs = [.str b] ∧ Builtin.Str.occurrences a b 0 a.length 1 = i :: rest ∧ Q (.int (i : Nat)) H) (.str z) [v] H Q := by
  intro ρ h H Ha z v a Q hr tb q e
  unfold gSIndex at e
  cases hb : strOf a with
  | none => rw [hb] at e; exact e.elim
  | some b =>
    rw [hb] at e
    have ev := str_of q hb
    subst ev
    simp only at e
    cases ho : Builtin.Str.occurrences z b 0 z.length 1 with
    | nil => rw [ho] at e; exact e.elim
    | cons i rest => rw [ho] at e; exact ⟨z, b, i, rest, rfl, rfl, ho, fin_d hr tb e (.int _)⟩
end
end Sh
set_option Elab.async false
set_option linter.all false
set_option maxRecDepth 100000
namespace Sh
open PySem PySem.Spec PyProof.Rows L2

/-! ### statements: from one moment to a later one -/
/-- tuples stay, numbers stay -/
structure Lt (K : PySem.W.Frag) (ρ : List Addr) (H : Hp) (ρ' : List Addr) (H' : Hp) : Prop where
  pre : ρ <+: ρ'
  tup : ∀ a vs, SqT K H a vs → SqT K H' a vs
section
variable {K : PySem.W.Frag} {p : Pm} {ρ ρ1 ρ2 ρ0 : List Addr} {G G' : List (Addr × HO)} {S S' : Env'} {σ : L2.St} {h h1 : Hs} {H H1 H2 H0 : Hp}
theorem Lt.refl : Lt K ρ H ρ H := ⟨List.prefix_refl _, fun _ _ e => e⟩
theorem Lt.trans (a : Lt K ρ H ρ1 H1) (b : Lt K ρ1 H1 ρ2 H2) : Lt K ρ H ρ2 H2 := ⟨a.pre.trans b.pre, fun x vs e => b.tup x vs (a.tup x vs e)⟩
theorem Lt.dv (a : Lt K ρ H ρ1 H1) {v : V} {d : D} (q : DV K ρ H v d) : DV K ρ1 H1 v d := q.mono a.tup fun _ _ z => pre_get a.pre z
theorem Lt.dvs (a : Lt K ρ H ρ1 H1) {v : List V} {d : List D} (q : DVs K ρ H v d) : DVs K ρ1 H1 v d := q.mono a.tup fun _ _ z => pre_get a.pre z
theorem Nx.lt (n : Nx p ρ H ρ1 h1 H1) (hr : HR p ρ h H) : Lt p.K ρ H ρ1 H1 := ⟨n.pre, fun _ _ e => n.tup hr e⟩
/-- what the def has done as a whole -/
theorem Stt.whole (s : Stt p ρ0 H0 G ρ S h σ H) : Nx p ρ0 H0 ρ h H where
  pre := s.pre
  hr := s.hr
  fr := fun a o e nt na => s.fr a o e nt fun m => (s.nw a m).elim na fun z => by rw [e] at z; cases z
  nw := s.nw
  tk := s.tk
  tb := s.tb
/-- the end of a statement -/
def Sd (p : Pm) (ρ0 : List Addr) (H0 : Hp) (W : WX) (G : List (Addr × HO)) (ρ : List Addr) (H : Hp) (D : Ends) (o : Option Out) : Prop := match o with
  | none => False
  | some (.nx S h) => ∀ G' ρ' σ' H', (∀ q ∈ G, q ∈ G') → Lt p.K ρ H ρ' H' → Stt p ρ0 H0 G' ρ' S h σ' H' → D.nx σ' H'
  | some (.brk S h) => ∀ G' ρ' σ' H', (∀ q ∈ G, q ∈ G') → Lt p.K ρ H ρ' H' → Stt p ρ0 H0 G' ρ' S h σ' H' → D.bk σ' H'
  | some (.ct S h) => ∀ G' ρ' σ' H', (∀ q ∈ G, q ∈ G') → Lt p.K ρ H ρ' H' → Stt p ρ0 H0 G' ρ' S h σ' H' → D.ct σ' H'
  | some (.ret r h) => ∀ ρ' H' v, Nx p ρ0 H0 ρ' h H' → RV p ρ' H0 H' v r → D.rt v H'
  | some (.exc c S h) => ∀ G' ρ' σ' H', (∀ q ∈ G, q ∈ G') → Lt p.K ρ H ρ' H' → Stt p ρ0 H0 G' ρ' S h σ' H' → W (.ref (p.cad c)) none σ' H'
def tS (K : PySem.W.Frag) (c : Cc) (g : SX) : TS := fun D σ H => ∃ G ρ S h, Stt (c.p K) c.ρ0 c.H0 G ρ S h σ H ∧ Sd (c.p K) c.ρ0 c.H0 c.W G ρ H D (g S h)
abbrev CS (X : Cx) (c : Cc) (st : Stmt) (g : SX) : Prop := PS X st (tS X.K c g)
abbrev CSs (X : Cx) (c : Cc) (st : List Stmt) (g : SX) : Prop := PSs X st (tS X.K c g)
theorem ps_weak {X : Cx} {st : Stmt} {t t' : TS} (he : PS X st t) (h : ∀ D σ H, t' D σ H → t D σ H) : PS X st t' := ⟨fun pins s σ H D I q => he.run pins s σ H D I (h D σ H q)⟩
theorem pss_weak {X : Cx} {st : List Stmt} {t t' : TS} (he : PSs X st t) (h : ∀ D σ H, t' D σ H → t D σ H) : PSs X st t' := ⟨fun pins s σ H D I q => he.run pins s σ H D I (h D σ H q)⟩
theorem Sd.later {W : WX} {D : Ends} {o : Option Out} (e : Sd p ρ0 H0 W G ρ H D o) (l : Lt p.K ρ H ρ1 H1) (hg : ∀ q ∈ G, q ∈ G') : Sd p ρ0 H0 W G' ρ1 H1 D o := by
  cases o with
  | none => exact e
  | some r =>
    cases r with
    | ret r h => exact e
    | nx S h => exact fun G2 ρ' σ' H' g l2 s => e G2 ρ' σ' H' (fun q m => g q (hg q m)) (l.trans l2) s
    | brk S h => exact fun G2 ρ' σ' H' g l2 s => e G2 ρ' σ' H' (fun q m => g q (hg q m)) (l.trans l2) s
    | ct S h => exact fun G2 ρ' σ' H' g l2 s => e G2 ρ' σ' H' (fun q m => g q (hg q m)) (l.trans l2) s
    | exc k S h => exact fun G2 ρ' σ' H' g l2 s => e G2 ρ' σ' H' (fun q m => g q (hg q m)) (l.trans l2) s
/-- an expression ahead of what a statement does with it -/
def thenS {α : Type} (S : Env') (o : Option (Rs α)) (k : α → Hs → Option Out) : Option Out := match o with
  | none => none
  | some (.ok a h) => k a h
  | some (.exc c h) => some (.exc c S h)
theorem Sd.ex {α β : Type} {W : WX} {D : Ends} {o : Option (Rs α)} {k : α → Hs → Option Out} {rel : List Addr → Hp → Hp → β → α → Prop} {Q : β → Hp → Prop} (s : Stt p ρ0 H0 G ρ S h σ H) (n0 : Nx p ρ H ρ1 h1 H1)
    (e : Sd p ρ0 H0 W G ρ H D (thenS S o k)) (hk : ∀ a h2 ρ2 H2 v, Nx p ρ1 H1 ρ2 h2 H2 → rel ρ2 H1 H2 v a → Sd p ρ0 H0 W G ρ H D (k a h2) → Q v H2) : Ed p (fun cls d H' => W cls d σ H') ρ1 H1 o rel Q := by
  cases o with
  | none => exact e
  | some r =>
    cases r with
    | ok a h1 => exact fun ρ1 H1 v n q => hk a h1 ρ1 H1 v n q e
    | exc c h1 => exact fun ρ' H' n => e G ρ' σ H' (fun _ m => m) ((n0.trans n).lt s.hr) (s.nx (n0.trans n))
/-- what a name gets -/
def slOf : R → Option Sl
  | .d x => some (.d x)
  | .new k => some (.own k)
  | .bor _ => none
theorem Stt.set (s : Stt p ρ0 H0 G ρ S h σ H) {i : Nat} {v : V} {sl : Sl} (hv : SV p ρ G H0 H sl (some v)) (ha : ∀ a, isOwn sl = true → v = .ref a → ∀ j t, j ≠ i → S[j]? = some t → isOwn t = true → σ[j]? ≠ some (some (.ref a))) :
    Stt p ρ0 H0 G ρ (S.set i sl) h (σ.set i (some v)) H where
  hr := s.hr
  tb := s.tb
  pre := s.pre
  fr := s.fr
  nw := s.nw
  tk := s.tk
  gh := s.gh
  len := by rw [List.length_set, List.length_set]; exact s.len
  sl := fun j t ht => by
    by_cases hj : j = i
    · subst hj
      have hl : j < S.length := by
        have := (List.getElem?_eq_some_iff.mp ht).1
        rwa [List.length_set] at this
      rw [List.getElem?_set_self hl] at ht
      cases ht
      exact ⟨some v, List.getElem?_set_self (by rw [← s.len]; exact hl), hv⟩
    · rw [List.getElem?_set_ne (Ne.symm hj)] at ht
      obtain ⟨o, e, q⟩ := s.sl j t ht
      exact ⟨o, by rw [List.getElem?_set_ne (Ne.symm hj)]; exact e, q⟩
  ap := fun j k t u a hjk hj hk ot ou ea => by
    have lt : ∀ {j : Nat} {t : Sl}, (S.set i sl)[j]? = some t → j < S.length := fun {j t} e => by
      have := (List.getElem?_eq_some_iff.mp e).1
      rwa [List.length_set] at this
    by_cases h1 : j = i
    · subst h1
      have hl := lt hj
      rw [List.getElem?_set_self hl] at hj
      cases hj
      rw [List.getElem?_set_self (by rw [← s.len]; exact hl)] at ea
      cases ea
      rw [List.getElem?_set_ne hjk] at hk ⊢
      exact ha a ot rfl k u (Ne.symm hjk) hk ou
    · rw [List.getElem?_set_ne (Ne.symm h1)] at hj ea
      by_cases h2 : k = i
      · subst h2
        intro e2
        have hl : k < S.length := lt hk
        rw [List.getElem?_set_self hl] at hk
        cases hk
        rw [List.getElem?_set_self (by rw [← s.len]; exact hl)] at e2
        cases e2
        exact ha a ou rfl j t h1 hj ot ea
      · rw [List.getElem?_set_ne (Ne.symm h2)] at hk ⊢
        exact s.ap j k t u a hjk hj hk ot ou ea
/-- what an expression gave is stored -/
theorem Stt.put (s : Stt p ρ0 H0 G ρ S h σ H) (n : Nx p ρ H ρ1 h1 H1) {i : Nat} {v : V} {r : R} {sl : Sl} (q : RV p ρ1 H H1 v r) (e : slOf r = some sl) : Stt p ρ0 H0 G ρ1 (S.set i sl) h1 (σ.set i (some v)) H1 := by
  cases r with
  | d x =>
    cases e
    exact (s.nx n).set ⟨v, rfl, q⟩ fun a z => by cases z
  | new k =>
    cases e
    obtain ⟨a, rfl, z, na, m⟩ := q
    obtain ⟨o1, _, o3⟩ := s.old z
    refine (s.nx n).set ⟨a, rfl, m, o1, na, o3⟩ fun b _ eb j t hj ht ot ej => ?_
    cases eb
    obtain ⟨o, eo, sv⟩ := s.sl j t ht
    cases t with
    | own k' =>
      obtain ⟨b, e1, m1, _⟩ := sv
      obtain ⟨u, e2, _⟩ := m1.mut
      rw [eo] at ej
      rw [e1] at ej
      cases ej
      rw [z] at e2; cases e2
    | _ => cases ot
  | bor k => cases e
end

section
variable {X : Cx} {c : Cc} {e : Expr} {st : Stmt} {rest : List Stmt} {pos : Pos}
def sNil : SX := fun S h => some (.nx S h)
def sSeq (f g : SX) : SX := fun S h => match f S h with
  | some (.nx S1 h1) => g S1 h1
  | r => r
theorem cs_nil : CSs X c [] sNil := by
  refine pss_weak pss_nil fun D σ H q => ?_
  obtain ⟨G, ρ, S, h, s, e⟩ := q
  exact e G ρ σ H (fun _ m => m) .refl s
theorem cs_cons {f g : SX} (h1 : CS X c st f) (h2 : CSs X c rest g) : CSs X c (st :: rest) (sSeq f g) := by
  refine pss_weak (pss_cons h1 h2) fun D σ H q => ?_
  obtain ⟨G, ρ, S, h, s, e⟩ := q
  refine ⟨G, ρ, S, h, s, ?_⟩
  unfold sSeq at e
  cases hf : f S h with
  | none => rw [hf] at e; exact e
  | some r =>
    rw [hf] at e
    cases r with
    | nx S1 h1 => exact fun G1 ρ1 σ1 H1 hg l s1 => ⟨G1, ρ1, S1, h1, s1, Sd.later e l hg⟩
    | ret r h => exact e
    | brk S h => exact e
    | ct S h => exact e
    | exc k S h => exact e
theorem cs_one {f : SX} (h1 : CS X c st f) : CSs X c [st] f := pss_one h1
def sPass : SX := sNil
theorem cs_pass : CS X c (.Pass pos) sPass := by
  refine ps_weak ps_pass fun D σ H q => ?_
  obtain ⟨G, ρ, S, h, s, e⟩ := q
  exact e G ρ σ H (fun _ m => m) .refl s
def sBrk : SX := fun S h => some (.brk S h)
def sCt : SX := fun S h => some (.ct S h)
theorem cs_break : CS X c (.Break pos) sBrk := by
  refine ps_weak ps_break fun D σ H q => ?_
  obtain ⟨G, ρ, S, h, s, e⟩ := q
  exact e G ρ σ H (fun _ m => m) .refl s
theorem cs_continue : CS X c (.Continue pos) sCt := by
  refine ps_weak ps_continue fun D σ H q => ?_
  obtain ⟨G, ρ, S, h, s, e⟩ := q
  exact e G ρ σ H (fun _ m => m) .refl s
/-- x = e -/
def sSet (i : Nat) (f : EX) : SX := fun S h => thenS S (f S h) fun r h1 => match slOf r with
  | some sl => some (.nx (S.set i sl) h1)
  | none => none
theorem cs_set {i : Nat} {x : Str} {f : EX} {pos' : Pos} (he : CE X c e f) (hN : X.N.Nodup) (hi : X.N[i]? = some x := by rfl) (hx : Loc X.env.scope x := by first | exact Or.inl rfl | exact Or.inr rfl) (hs : swapsWith e (some (.Name x pos')) pos.line X.env = pure false := by rfl)
    (hf : X.fn x = true ∨ X.env.scope.names.lookup x = some .local := by first | exact .inl rfl | exact .inr rfl | assumption) : CS X c (.Assign [.Name x pos'] e pos) (sSet i f) := by
  refine ps_weak (ps_set hN hi hx he hs hf) fun D σ H q => ?_
  obtain ⟨G, ρ, S, h, s, e⟩ := q
  refine ⟨G, ρ, S, h, s, Sd.ex s (.refl s.hr s.tb) e (rel := RV (c.p X.K)) fun r h1 ρ1 H1 v n1 rv e1 => ?_⟩
  cases hsl : slOf r with
  | none => simp only [hsl] at e1; exact e1.elim
  | some sl =>
    simp only [hsl] at e1
    exact e1 G ρ1 _ H1 (fun _ m => m) (n1.lt s.hr) (s.put n1 rv hsl)
/-- an expression alone -/
def sEx (f : EX) : SX := fun S h => thenS S (f S h) fun _ h1 => some (.nx S h1)
theorem cs_ex {f : EX} (he : CE X c e f) (hs : swapsWith e none pos.line X.env = pure false := by rfl) : CS X c (.Expr e pos) (sEx f) := by
  refine ps_weak (ps_expr he hs) fun D σ H q => ?_
  obtain ⟨G, ρ, S, h, s, e⟩ := q
  exact ⟨G, ρ, S, h, s, Sd.ex s (.refl s.hr s.tb) e (rel := RV (c.p X.K)) fun r h1 ρ1 H1 v n1 rv e1 => e1 G ρ1 _ H1 (fun _ m => m) (n1.lt s.hr) (s.nx n1)⟩
/-- return e; return x -/
def retOk : R → Option R
  | .bor _ => none
  | r => some r
def sRet (f : EX) : SX := fun S h => thenS S (f S h) fun r h1 => match retOk r with
  | some r => some (.ret r h1)
  | none => none
theorem cs_ret {f : EX} (he : CE X c e f) : CS X c (.Return (some e) pos) (sRet f) := by
  refine ps_weak (ps_ret he) fun D σ H q => ?_
  obtain ⟨G, ρ, S, h, s, e⟩ := q
  refine ⟨G, ρ, S, h, s, Sd.ex s (.refl s.hr s.tb) e (rel := RV (c.p X.K)) fun r h1 ρ1 H1 v n1 rv e1 => ?_⟩
  cases r with
  | d x => exact e1 ρ1 H1 v (s.nx n1).whole rv
  | new k =>
    obtain ⟨a, rfl, z, na, m⟩ := rv
    exact e1 ρ1 H1 _ (s.nx n1).whole ⟨a, rfl, (s.old z).1, na, m⟩
  | bor k => exact e1.elim
def sRetV (i : Nat) : SX := fun S h => match S[i]? with
  | some (.d x) => some (.ret (.d x) h)
  | some (.own k) => some (.ret (.new k) h)
  | _ => none
theorem cs_retV {i : Nat} {x : Str} {pos' : Pos} (hN : X.N[i]? = some x := by rfl) (hv : Vis X.env.scope x := by first | exact Or.inl rfl | exact Or.inr (Or.inl rfl) | exact Or.inr (Or.inr rfl)) (hd : (x == ("__debug__" : Str)) = false := by decide)
    (hcd : (x == ("__classdict__" : Str)) = false := by decide) : CS X c (.Return (some (.Name x pos')) pos) (sRetV i) := by
  refine ps_weak (ps_ret (pe_var hN hv hd hcd)) fun D σ H q => ?_
  obtain ⟨G, ρ, S, h, s, e⟩ := q
  unfold sRetV at e
  cases hS : S[i]? with
  | none => rw [hS] at e; exact e.elim
  | some sl =>
    rw [hS] at e
    obtain ⟨o, ho, v⟩ := s.sl i sl hS
    cases sl with
    | none => exact e.elim
    | d x =>
      obtain ⟨w, rfl, r⟩ := v
      exact ⟨w, ho, e ρ H w s.whole r⟩
    | own k =>
      obtain ⟨w, rfl, r, z, na, _⟩ := v
      exact ⟨_, ho, e ρ H _ s.whole ⟨w, rfl, z, na, r⟩⟩
    | bor k => exact e.elim
def sRetN : SX := fun _ h => some (.ret (.d .non) h)
theorem cs_retN : CS X c (.Return none pos) sRetN := by
  refine ps_weak ps_retN fun D σ H q => ?_
  obtain ⟨G, ρ, S, h, s, e⟩ := q
  exact e ρ H _ s.whole .non
/-- if -/
def sIf (t : TX) (f g : SX) : SX := fun S h => thenS S (t S h) fun b h1 => if b = true then f S h1 else g S h1
theorem cs_if {t : TX} {f g : SX} {a b : List Stmt} (ht : CT X c e t) (ha : CSs X c a f) (hb : CSs X c b g) : CS X c (.If e a b pos) (sIf t f g) := by
  refine ps_weak (ps_if ht ha hb) fun D σ H q => ?_
  obtain ⟨G, ρ, S, h, s, e⟩ := q
  refine ⟨G, ρ, S, h, s, Sd.ex s (.refl s.hr s.tb) e (rel := Bl) fun b h1 ρ1 H1 v n1 rv e1 => ?_⟩
  cases rv
  cases b with
  | true => exact iteT ⟨G, ρ1, S, h1, s.nx n1, Sd.later e1 (n1.lt s.hr) fun _ m => m⟩
  | false => exact iteF ⟨G, ρ1, S, h1, s.nx n1, Sd.later e1 (n1.lt s.hr) fun _ m => m⟩
/-- while, at most so many turns -/
def sWhile (t : TX) (f : SX) : Nat → SX
  | 0 => fun _ _ => none
  | n + 1 => fun S h => thenS S (t S h) fun b h1 => if b = true then (match f S h1 with
      | some (.nx S2 h2) => sWhile t f n S2 h2
      | some (.ct S2 h2) => sWhile t f n S2 h2
      | some (.brk S2 h2) => some (.nx S2 h2)
      | r => r) else some (.nx S h1)
theorem cs_while {t : TX} {f : SX} {n : Nat} {b : List Stmt} (hp : PassesOwn (model X.prog X.w) X.A X.env X.xe) (ht : CT X c e t) (hb : CSs X c b f) : CS X c (.While e b [] pos) (sWhile t f n) := by
  refine ps_weak (ps_while hp ht hb) fun D σ H q => ?_
  obtain ⟨G, ρ, S, h, s, e⟩ := q
  refine ⟨fun m σ' H' => ∃ G' ρ' S' h', (∀ q ∈ G, q ∈ G') ∧ Lt X.K ρ H ρ' H' ∧ Stt (c.p X.K) c.ρ0 c.H0 G' ρ' S' h' σ' H' ∧ Sd (c.p X.K) c.ρ0 c.H0 c.W G' ρ' H' D (sWhile t f m S' h'),
    ⟨n, G, ρ, S, h, fun _ m => m, .refl, s, e⟩, fun m σ1 H1 hw => ?_⟩
  obtain ⟨G1, ρ1, S1, h1, hg1, l1, s1, e1⟩ := hw
  cases m with
  | zero => exact e1.elim
  | succ m =>
    refine ⟨G1, ρ1, S1, h1, s1, Sd.ex s1 (.refl s1.hr s1.tb) e1 (rel := Bl) fun b h2 ρ2 H2 v n2 rv e2 => ?_⟩
    cases rv
    have l2 := n2.lt s1.hr
    cases b with
    | false => exact iteF (e2 G1 ρ2 _ H2 (fun _ m => m) l2 (s1.nx n2))
    | true =>
      refine iteT ⟨fun σ' H' => ∃ G' ρ' S' h', (∀ q ∈ G, q ∈ G') ∧ Lt X.K ρ H ρ' H' ∧ Stt (c.p X.K) c.ρ0 c.H0 G' ρ' S' h' σ' H' ∧ Sd (c.p X.K) c.ρ0 c.H0 c.W G' ρ' H' D (sWhile t f m S' h'), fun σ' H' hn => ⟨m, Nat.lt_succ_self m, hn⟩, ?_⟩
      refine ⟨G1, ρ2, S1, h2, s1.nx n2, ?_⟩
      simp only [if_pos] at e2
      cases hf : f S1 h2 with
      | none => rw [hf] at e2; exact e2
      | some r =>
        rw [hf] at e2
        cases r with
        | nx S3 h3 => exact fun G3 ρ3 σ3 H3 hg3 l3 s3 => ⟨G3, ρ3, S3, h3, fun q m => hg3 q (hg1 q m), l1.trans (l2.trans l3), s3, Sd.later e2 (l2.trans l3) hg3⟩
        | ct S3 h3 => exact fun G3 ρ3 σ3 H3 hg3 l3 s3 => ⟨G3, ρ3, S3, h3, fun q m => hg3 q (hg1 q m), l1.trans (l2.trans l3), s3, Sd.later e2 (l2.trans l3) hg3⟩
        | brk S3 h3 => exact fun G3 ρ3 σ3 H3 hg3 l3 s3 => e2 G3 ρ3 σ3 H3 hg3 (l2.trans l3) s3
        | ret r h3 => exact e2
        | exc k S3 h3 => exact fun G3 ρ3 σ3 H3 hg3 l3 s3 => e2 G3 ρ3 σ3 H3 hg3 (l2.trans l3) s3
end
end Sh
set_option Elab.async false
set_option linter.all false
set_option maxRecDepth 100000
namespace Sh
open PySem PySem.Spec PyProof.Rows L2

/-! ### writes -/
section
variable {p : Pm} {ρ ρ1 ρ0 : List Addr} {G : List (Addr × HO)} {S : Env'} {σ : L2.St} {h h1 : Hs} {H H1 H0 : Hp} {a : Addr} {u o : HO}
theorem upd_om {b : Addr} {x : O} (hq : H a = some u) (m : MutO u) (hb : b ≠ a) (q : OM p ρ H b x) : OM p ρ (upd H a o) b x := by
  cases x with
  | lst ds => obtain ⟨vs, e, r⟩ := q; exact ⟨vs, by rw [upd_ne hb]; exact e, upd_dvs hq m r⟩
  | dct kd => obtain ⟨vs, e, r1, r2⟩ := q; exact ⟨vs, by rw [upd_ne hb]; exact e, r1, upd_dvs hq m r2⟩
  | ins c fs => obtain ⟨dx, gs, e, r1, r2⟩ := q; exact ⟨dx, gs, by rw [upd_ne hb]; exact e, r1, upd_dvs hq m r2⟩
theorem upd_cm {b : Addr} {x : Cn} (hq : H a = some u) (m : MutO u) (hb : b ≠ a) (q : CM p.K ρ H b x) : CM p.K ρ (upd H a o) b x := by
  cases x with
  | lst ds => obtain ⟨vs, e, r⟩ := q; exact ⟨vs, by rw [upd_ne hb]; exact e, upd_dvs hq m r⟩
  | dct kd => obtain ⟨vs, e, r1, r2⟩ := q; exact ⟨vs, by rw [upd_ne hb]; exact e, r1, upd_dvs hq m r2⟩
  | fz ds => exact q.elim
theorem upd_tabs (hq : H a = some u) (m : MutO u) (t : LamX.Tabs p.T H) : LamX.Tabs p.T (upd H a o) := fun q hq2 => by
  obtain ⟨ps, h1, h2, h3⟩ := t q hq2
  have key : ∀ {b w}, H b = some w → ¬ MutO w → upd H a o b = some w := fun {b w} e n => by
    rw [upd_ne (fun z => by rw [z, hq] at e; cases e; exact n m)]
    exact e
  refine ⟨ps, key h1 (fun z => z), h2, fun pos cv hc => ?_⟩
  obtain ⟨c, e1, e2⟩ := h3 pos cv hc
  exact ⟨c, e1, key e2 (by unfold LamX.CodeO; exact fun z => z)⟩
/-- a shared object is written -/
theorem Nx.write {j : Nat} {x : O} (hr : HR p ρ h H) (tb : LamX.Tabs p.T H) (hj : ρ[j]? = some a) (hq : H a = some u) (m : MutO u) (new : OM p ρ (upd H a o) a x) : Nx p ρ H ρ (h.set j x) (upd H a o) where
  pre := List.prefix_refl _
  hr := ⟨by rw [List.length_set]; exact hr.len, hr.nd, fun k b y hk hy => by
    by_cases hkj : k = j
    · subst hkj
      rw [hj] at hk; cases hk
      rw [List.getElem?_set_self (by rw [← hr.len]; exact (List.getElem?_eq_some_iff.mp hj).1)] at hy
      cases hy
      exact new
    · rw [List.getElem?_set_ne (Ne.symm hkj)] at hy
      refine upd_om hq m (fun z => hkj ?_) (hr.ob k b y hk hy)
      obtain ⟨h1, e1⟩ := List.getElem?_eq_some_iff.mp hk
      obtain ⟨h2, e2⟩ := List.getElem?_eq_some_iff.mp hj
      exact (List.getElem_inj hr.nd).mp (e1.trans (z.trans e2.symm))⟩
  fr := fun b w e _ nb => by
    rw [upd_ne (fun z => nb (by rw [z]; exact List.mem_of_getElem? hj))]
    exact e
  nw := fun _ m => .inl m
  tk := fun b ps e => ⟨ps, by rw [upd_ne (fun z => by rw [z, hq] at e; cases e; exact m)]; exact e⟩
  tb := upd_tabs hq m tb
/-- a local container is written -/
theorem Stt.write (s : Stt p ρ0 H0 G ρ S h σ H) {i : Nat} {k k' : Cn} (hi : S[i]? = some (.own k)) (hv : σ[i]? = some (some (V.ref a))) (new : (∃ w, H a = some w ∧ MutO w) → CM p.K ρ (upd H a o) a k') :
    Stt p ρ0 H0 G ρ (S.set i (.own k')) h σ (upd H a o) ∧ Lt p.K ρ H ρ (upd H a o) := by
  obtain ⟨o1, e1, v⟩ := s.sl i _ hi
  rw [hv] at e1; cases e1
  obtain ⟨b, e2, m, z, na, g⟩ := v
  cases e2
  obtain ⟨w, hw, mw⟩ := m.mut
  have new := new ⟨w, hw, mw⟩
  refine ⟨⟨⟨s.hr.len, s.hr.nd, fun j b x hj hx => upd_om hw mw (fun z => na (by rw [← z]; exact List.mem_of_getElem? hj)) (s.hr.ob j b x hj hx)⟩, upd_tabs hw mw s.tb, s.pre, fun b x e nt nb => ?_, s.nw, fun b ps e => ?_, fun q hq => ?_,
    by rw [List.length_set]; exact s.len, fun j t ht => ?_, fun j k2 t t2 b hjk hj hk ot ou ea => ?_⟩, List.prefix_refl _, fun _ _ q => upd_sqt hw mw q⟩
  · rw [upd_ne (fun q => by rw [q] at e; rw [z] at e; cases e)]
    exact s.fr b x e nt nb
  · obtain ⟨qs, e1⟩ := s.tk b ps e
    exact ⟨qs, by rw [upd_ne (fun q => by rw [q, hw] at e1; cases e1; exact mw)]; exact e1⟩
  · obtain ⟨e, nt, nb⟩ := s.gh q hq
    exact ⟨by rw [upd_ne (g q hq)]; exact e, nt, nb⟩
  · by_cases hj : j = i
    · subst hj
      rw [List.getElem?_set_self (List.getElem?_eq_some_iff.mp hi).1] at ht
      cases ht
      exact ⟨_, hv, a, rfl, new, z, na, g⟩
    · rw [List.getElem?_set_ne (Ne.symm hj)] at ht
      obtain ⟨o1, e1, v⟩ := s.sl j t ht
      refine ⟨o1, e1, ?_⟩
      cases t with
      | none => trivial
      | d x => obtain ⟨v, e, r⟩ := v; exact ⟨v, e, upd_dv hw mw r⟩
      | own c =>
        obtain ⟨b, e, m2, z2, nb, g2⟩ := v
        subst e
        exact ⟨b, rfl, upd_cm hw mw (fun q => s.ap i j _ _ a (Ne.symm hj) hi ht rfl rfl hv (by rw [e1, q])) m2, z2, nb, g2⟩
      | bor c =>
        obtain ⟨b, e, r⟩ := v
        refine ⟨b, e, ?_⟩
        have nba : Kn G H0 b → b ≠ a := fun kn q => by
          rcases kn with kn | ⟨q2, hq2, e2⟩
          · exact kn (by rw [q]; exact z)
          · exact g q2 hq2 (e2.trans q)
        cases c with
        | lst ds => obtain ⟨vs, r, e1, nb, kn⟩ := r; exact ⟨vs, upd_dvs hw mw r, by rw [upd_ne (nba kn)]; exact e1, nb, kn⟩
        | dct kd => obtain ⟨vs, ⟨r1, r2⟩, e1, nb, kn⟩ := r; exact ⟨vs, ⟨r1, upd_dvs hw mw r2⟩, by rw [upd_ne (nba kn)]; exact e1, nb, kn⟩
        | fz ds =>
          obtain ⟨vs, r, q | ⟨⟨ob, e1⟩, nb, kn⟩⟩ := r
          · exact ⟨vs, upd_dvs hw mw r, .inl q⟩
          · exact ⟨vs, upd_dvs hw mw r, .inr ⟨⟨ob, by rw [upd_ne (nba kn)]; exact e1⟩, nb, kn⟩⟩
  · have own_at : ∀ {j : Nat} {t : Sl}, (S.set i (.own k'))[j]? = some t → isOwn t = true → ∃ t', S[j]? = some t' ∧ isOwn t' = true := fun {j t} hj ot => by
      by_cases q : j = i
      · subst q
        exact ⟨_, hi, rfl⟩
      · rw [List.getElem?_set_ne (Ne.symm q)] at hj
        exact ⟨t, hj, ot⟩
    obtain ⟨t1, h1, q1⟩ := own_at hj ot
    obtain ⟨t3, h3, q3⟩ := own_at hk ou
    exact s.ap j k2 t1 t3 b hjk h1 h3 q1 q3 ea
end

/-! ### keys and values -/
section
variable {K : PySem.W.Frag} {ρ : List Addr} {H : Hp}
def putD (kd : List (Key × D)) (k : Key) (d : D) : List (Key × D) := if (kd.any fun q => decide (q.1 = k)) = true then kd.map (fun q => if q.1 = k then (q.1, d) else q) else kd ++ [(k, d)]
theorem KD.cons {k : Key} {v : V} {d : D} {ks : List (Key × V)} {kd : List (Key × D)} (q : DV K ρ H v d) (r : KD K ρ H ks kd) : KD K ρ H ((k, v) :: ks) ((k, d) :: kd) := ⟨by rw [List.map_cons, List.map_cons, r.1], .cons q r.2⟩
theorem KD.any (k : Key) : ∀ {ks : List (Key × V)} {kd : List (Key × D)}, KD K ρ H ks kd → (ks.any fun q => decide (q.1 = k)) = (kd.any fun q => decide (q.1 = k))
  | [], [], _ => rfl
  | [], _ :: _, ⟨e, _⟩ => by simp at e
  | _ :: _, [], ⟨e, _⟩ => by simp at e
  | (k1, v1) :: ks, (k2, d2) :: kd, ⟨e, r⟩ => by
    simp only [List.map_cons, List.cons.injEq] at e
    cases r with
    | cons h r => rw [List.any_cons, List.any_cons, KD.any k ⟨e.2, r⟩, e.1]
theorem KD.repl (k : Key) {v : V} {d : D} (q : DV K ρ H v d) : ∀ {ks : List (Key × V)} {kd : List (Key × D)}, KD K ρ H ks kd →
    KD K ρ H (ks.map fun q => if q.1 = k then (q.1, v) else q) (kd.map fun q => if q.1 = k then (q.1, d) else q)
  | [], [], _ => ⟨rfl, .nil⟩
  | [], _ :: _, ⟨e, _⟩ => by simp at e
  | _ :: _, [], ⟨e, _⟩ => by simp at e
  | (k1, v1) :: ks, (k2, d2) :: kd, ⟨e, r⟩ => by
    simp only [List.map_cons, List.cons.injEq] at e
    obtain ⟨e1, e2⟩ := e
    subst e1
    cases r with
    | cons h r =>
      rw [List.map_cons, List.map_cons]
      have ih := KD.repl k q (ks := ks) (kd := kd) ⟨e2, r⟩
      by_cases hk : k1 = k
      · simp only [hk, if_true]; exact ih.cons q
      · simp only [hk, if_false]; exact ih.cons h
theorem KD.snoc (k : Key) {v : V} {d : D} (q : DV K ρ H v d) {ks : List (Key × V)} {kd : List (Key × D)} (r : KD K ρ H ks kd) : KD K ρ H (ks ++ [(k, v)]) (kd ++ [(k, d)]) :=
  ⟨by rw [List.map_append, List.map_append, r.1]; rfl, by rw [List.map_append, List.map_append]; exact r.2.append (.cons q .nil)⟩
theorem KD.put (k : Key) {v : V} {d : D} (q : DV K ρ H v d) {ks : List (Key × V)} {kd : List (Key × D)} (r : KD K ρ H ks kd) : KD K ρ H (putK ks k v) (putD kd k d) := by
  unfold putK putD
  rw [r.any k]
  by_cases e : (kd.any fun q => decide (q.1 = k)) = true
  · rw [if_pos e, if_pos e]; exact r.repl k q
  · rw [if_neg e, if_neg e]; exact r.snoc k q
end

/-! ### statements that write -/
section
variable {X : Cx} {c : Cc} {e eo ei : Expr} {st : Stmt} {rest : List Stmt} {pos : Pos}
/-- a list's or dict's item -/
def rSetA : TSet := fun o i v H Q => rSetL o i v H Q ∨ rSetD o i v H Q
theorem set_any (hu : X.A.units + 1 < cLine) : PSet X rSetA := by
  intro pins s σ H o i v ov iv u Q I ro ri rv h
  rcases h with h | h
  · exact set_list pins s σ H o i v ov iv u Q I ro ri rv h
  · exact set_dict hu pins s σ H o i v ov iv u Q I ro ri rv h
def setC (k : Cn) (i : D) (d : D) : Option Cn := match k, i with
  | .lst xs, .int i => match ixN xs.length i with
    | some j => some (.lst (xs.set j d))
    | none => none
  | .dct kd, i => match keyD i with
    | some k => if kd.length < sizeLine then some (.dct (putD kd k d)) else none
    | none => none
  | _, _ => none
def setO (k : O) (i : D) (d : D) : Option O := match k, i with
  | .lst xs, .int i => match ixN xs.length i with
    | some j => some (.lst (xs.set j d))
    | none => none
  | .dct kd, i => match keyD i with
    | some k => if kd.length < sizeLine then some (.dct (putD kd k d)) else none
    | none => none
  | _, _ => none
/-- o[i] = e, o a shared object -/
def sSetIx (fo fi fe : EX) : SX := fun S h => thenS S (fe S h) fun v h1 => thenS S (fo S h1) fun o h2 => thenS S (fi S h2) fun i h3 => match v, o, i with
  | .d v, .d (.ref j), .d i => match h3[j]? with
    | some x => match setO x i v with
      | some y => some (.nx S (h3.set j y))
      | none => none
    | none => none
  | _, _, _ => none
theorem setO_of {p : Pm} {ρ : List Addr} {H : Hp} {a : Addr} {x y : O} {i v : D} {iv vv : V} {Q : Hp → Prop} (hm : OM p ρ H a x) (qi : DV p.K ρ H iv i) (qv : DV p.K ρ H vv v) (e : setO x i v = some y)
    (k : ∀ u o, H a = some u → MutO u → OM p ρ (upd H a o) a y → Q (upd H a o)) : rSetA (.ref a) iv vv H Q := by
  cases x with
  | lst xs =>
    obtain ⟨vs, e1, r⟩ := hm
    cases i with
    | int i =>
      cases qi
      simp only [setO] at e
      cases hj : ixN xs.length i with
      | none => rw [hj] at e; cases e
      | some j =>
        rw [hj] at e
        cases e
        have m : MutO (.lst vs) := trivial
        exact .inl ⟨a, vs, i, j, rfl, rfl, e1, by rw [r.length]; exact hj, k _ _ e1 m ⟨_, upd_same, upd_dvs e1 m (r.set qv j)⟩⟩
    | _ => cases e
  | dct kd =>
    obtain ⟨ks, e1, r⟩ := hm
    have e : (match keyD i with
      | some k => if kd.length < sizeLine then some (O.dct (putD kd k v)) else none
      | none => none) = some y := by cases i <;> exact e
    cases hk : keyD i with
    | none => rw [hk] at e; cases e
    | some ky =>
      rw [hk] at e
      simp only at e
      split at e
      · rename_i hz
        cases e
        have ey := key_of' qi hk
        subst ey
        have m : MutO (.dK ks) := trivial
        obtain ⟨r1, r2⟩ := r.put ky qv
        exact .inr ⟨a, _, rfl, DPut.k e1 (by rw [r.length]; exact hz), k _ _ e1 m ⟨_, upd_same, r1, upd_dvs e1 m r2⟩⟩
      · cases e
  | ins c fs => cases i <;> cases e
theorem cs_setIx {fo fi fe : EX} {tpos : Pos} (ho : CE X c eo fo) (hi : CE X c ei fi) (he : CE X c e fe) (hu : X.A.units + 1 < cLine) (ha : ∀ v, assign (.Subscript eo ei tpos) X.env v = (do
      let ov ← holding [v] (eval eo X.env)
      let iv ← holding [v, ov] (eval ei X.env)
      standAt tpos
      holding [v, ov, iv] (setItem ov iv v)
      release [v, ov, iv] []) := by intro _; rfl) (hs : swapsWithSole [.Subscript eo ei tpos] e pos.line X.env = pure false := by rfl) (hw : swappedStores [.Subscript eo ei tpos] e X.env = pure none := by rfl)
    (h1 : (assignEach [.Subscript eo ei tpos] X.env).map (·.2) = [assign (.Subscript eo ei tpos) X.env] := by rfl) : CS X c (.Assign [.Subscript eo ei tpos] e pos) (sSetIx fo fi fe) := by
  refine ps_weak (ps_asg he (pg_sub ho hi (set_any hu) ha) hs hw h1) fun D σ H q => ?_
  obtain ⟨G, ρ, S, h, s, e⟩ := q
  refine ⟨G, ρ, S, h, s, Sd.ex s (.refl s.hr s.tb) e (rel := RV (c.p X.K)) fun v h1 ρ1 H1 vv n1 rv e1 => ?_⟩
  refine ⟨G, ρ1, S, h1, s.nx n1, Sd.ex s n1 e1 (rel := RV (c.p X.K)) fun o h2 ρ2 H2 ov n2 ro e2 => ?_⟩
  have n12 := n1.trans n2
  refine ⟨G, ρ2, S, h2, s.nx n12, Sd.ex s n12 e2 (rel := RV (c.p X.K)) fun i h3 ρ3 H3 iv n3 ri e3 => ?_⟩
  have n := n12.trans n3
  cases v with
  | d v =>
    cases o with
    | d o =>
      cases o with
      | ref j =>
        cases i with
        | d i =>
          simp only at e3
          cases hx : h3[j]? with
          | none => rw [hx] at e3; exact e3.elim
          | some x =>
            rw [hx] at e3
            simp only at e3
            cases hy : setO x i v with
            | none => rw [hy] at e3; exact e3.elim
            | some y =>
              rw [hy] at e3
              have ro3 : DV X.K ρ3 H3 ov (.ref j) := n3.dv n2.hr ro
              have rv3 : DV X.K ρ3 H3 vv v := n3.dv n2.hr (n2.dv n1.hr rv)
              cases ro3 with
              | ref hj =>
                rename_i a
                have hm := n.hr.ob j a x hj hx
                refine setO_of hm ri rv3 hy fun u o hq m new => ?_
                have nw := Nx.write n.hr n.tb hj hq m new
                have nn := n.trans nw
                exact e3 G _ _ _ (fun _ m => m) (nn.lt s.hr) (s.nx nn)
        | _ => exact e3.elim
      | _ => cases i <;> exact e3.elim
    | _ => cases i <;> exact e3.elim
  | _ => cases o <;> cases i <;> (try rename_i z _; cases z) <;> exact e3.elim
end
end Sh
set_option Elab.async false
set_option linter.all false
set_option maxRecDepth 100000
namespace Sh
open PySem PySem.Spec PyProof.Rows L2
section
variable {X : Cx} {c : Cc} {e eo ei : Expr} {st : Stmt} {rest : List Stmt} {pos : Pos}
/-! ### x[i] = e, x a local container -/
def sSetOwn (i : Nat) (fi fe : EX) : SX := fun S h => thenS S (fe S h) fun v h1 => match S[i]? with
  | some (.own n) => thenS S (fi S h1) fun k h2 => match v, k with
    | .d v, .d k => match setC n k v with
      | some m => some (.nx (S.set i (.own m)) h2)
      | none => none
    | _, _ => none
  | _ => none
theorem setC_of {p : Pm} {ρ : List Addr} {H : Hp} {a : Addr} {x y : Cn} {i v : D} {iv vv : V} {Q : Hp → Prop} (hm : CM p.K ρ H a x) (qi : DV p.K ρ H iv i) (qv : DV p.K ρ H vv v) (e : setC x i v = some y)
    (k : ∀ o, ((∃ w, H a = some w ∧ MutO w) → CM p.K ρ (upd H a o) a y) → Q (upd H a o)) : rSetA (.ref a) iv vv H Q := by
  cases x with
  | lst xs =>
    obtain ⟨vs, e1, r⟩ := hm
    cases i with
    | int i =>
      cases qi
      simp only [setC] at e
      cases hj : ixN xs.length i with
      | none => rw [hj] at e; cases e
      | some j =>
        rw [hj] at e
        cases e
        have m : MutO (.lst vs) := trivial
        exact .inl ⟨a, vs, i, j, rfl, rfl, e1, by rw [r.length]; exact hj, k _ fun _ => ⟨_, upd_same, upd_dvs e1 m (r.set qv j)⟩⟩
    | _ => cases e
  | dct kd =>
    obtain ⟨ks, e1, r⟩ := hm
    have e : (match keyD i with
      | some k => if kd.length < sizeLine then some (Cn.dct (putD kd k v)) else none
      | none => none) = some y := by cases i <;> exact e
    cases hk : keyD i with
    | none => rw [hk] at e; cases e
    | some ky =>
      rw [hk] at e
      simp only at e
      split at e
      · rename_i hz
        cases e
        have ey := key_of' qi hk
        subst ey
        have m : MutO (.dK ks) := trivial
        obtain ⟨r1, r2⟩ := r.put ky qv
        exact .inr ⟨a, _, rfl, DPut.k e1 (by rw [r.length]; exact hz), k _ fun _ => ⟨_, upd_same, r1, upd_dvs e1 m r2⟩⟩
      · cases e
  | fz xs => cases i <;> cases e
theorem cs_setOwn {i : Nat} {x : Str} {fi fe : EX} {tpos vpos : Pos} (hi : CE X c ei fi) (he : CE X c e fe) (hu : X.A.units + 1 < cLine)
    (hN : X.N[i]? = some x := by rfl) (hv : Vis X.env.scope x := by first | exact Or.inl rfl | exact Or.inr (Or.inl rfl) | exact Or.inr (Or.inr rfl)) (hd : (x == ("__debug__" : Str)) = false := by decide) (hcd : (x == ("__classdict__" : Str)) = false := by decide)
    (ha : ∀ v, assign (.Subscript (.Name x vpos) ei tpos) X.env v = (do
      let ov ← holding [v] (eval (.Name x vpos) X.env)
      let iv ← holding [v, ov] (eval ei X.env)
      standAt tpos
      holding [v, ov, iv] (setItem ov iv v)
      release [v, ov, iv] []) := by intro _; rfl) (hs : swapsWithSole [.Subscript (.Name x vpos) ei tpos] e pos.line X.env = pure false := by rfl) (hw : swappedStores [.Subscript (.Name x vpos) ei tpos] e X.env = pure none := by rfl)
    (h1 : (assignEach [.Subscript (.Name x vpos) ei tpos] X.env).map (·.2) = [assign (.Subscript (.Name x vpos) ei tpos) X.env] := by rfl) : CS X c (.Assign [.Subscript (.Name x vpos) ei tpos] e pos) (sSetOwn i fi fe) := by
  refine ps_weak (ps_asg he (pg_sub (pe_var hN hv hd hcd) hi (set_any hu) ha) hs hw h1) fun D σ H q => ?_
  obtain ⟨G, ρ, S, h, s, e⟩ := q
  refine ⟨G, ρ, S, h, s, Sd.ex s (.refl s.hr s.tb) e (rel := RV (c.p X.K)) fun v h1 ρ1 H1 vv n1 rv e1 => ?_⟩
  cases hS : S[i]? with
  | none => simp only [hS] at e1; exact e1.elim
  | some sl =>
    simp only [hS] at e1
    cases sl with
    | own n =>
      simp only at e1
      obtain ⟨o, ho, a, rfl, m, z, na, g⟩ := (s.nx n1).sl i _ hS
      refine ⟨_, ho, G, ρ1, S, h1, s.nx n1, Sd.ex s n1 e1 (rel := RV (c.p X.K)) fun k h2 ρ2 H2 kv n2 rk e2 => ?_⟩
      have nn := n1.trans n2
      cases v with
      | d v =>
        cases k with
        | d k =>
          simp only at e2
          cases hm : setC n k v with
          | none => rw [hm] at e2; exact e2.elim
          | some m' =>
            rw [hm] at e2
            have m2 := n2.cm n1.hr m na
            refine setC_of m2 rk (n2.dv n1.hr rv) hm fun o new => ?_
            obtain ⟨s3, l3⟩ := (s.nx nn).write hS ho new
            exact e2 G _ _ _ (fun _ m => m) ((nn.lt s.hr).trans l3) s3
        | _ => exact e2.elim
      | _ => cases k <;> exact e2.elim
    | _ => exact e1.elim

/-! ### x.append(e) -/
def sAppOwn (i : Nat) (fe : EX) : SX := fun S h => match S[i]? with
  | some (.own (.lst xs)) => thenS S (fe S h) fun v h1 => match v with
    | .d v => if xs.length < sizeLine then some (.nx (S.set i (.own (.lst (xs ++ [v])))) h1) else none
    | _ => none
  | _ => none
theorem cs_appOwn {i : Nat} {x : Str} {fe : EX} {vpos apos cpos : Pos} (he : CE X c e fe)
    (hN : X.N[i]? = some x := by rfl) (hv : Vis X.env.scope x := by first | exact Or.inl rfl | exact Or.inr (Or.inl rfl) | exact Or.inr (Or.inr rfl)) (hd : (x == ("__debug__" : Str)) = false := by decide) (hcd : (x == ("__classdict__" : Str)) = false := by decide)
    (hbase : attributeBase (.Name x vpos) "append" X.env (eval (.Name x vpos) X.env) = eval (.Name x vpos) X.env := by rfl)
    (hfew : ((backTo cpos (starEach (e :: []) X.env)).all (fun x => !x.1) && (backToKw cpos (keywordEach [] X.env)).all (fun x => x.1.isSome)
      && decide ((e :: []).length + ([] : List Keyword).length + (if ([] : List Keyword).isEmpty then 0 else 1) < 30)) = true := by rfl)
    (hline : (apos.endLine == cpos.line) = true := by rfl) (hs : starEach (e :: []) X.env = (false, eval e X.env) :: starEach [] X.env := by rfl) (hplain : (backTo cpos (starEach [] X.env)).any (·.1) = false := by rfl)
    (hsw : swapsWith (.Call (.Attribute (.Name x vpos) "append" apos) [e] [] cpos) none pos.line X.env = pure false := by rfl) :
    CS X c (.Expr (.Call (.Attribute (.Name x vpos) "append" apos) [e] [] cpos) pos) (sAppOwn i fe) := by
  refine ps_weak (ps_expr (pe_bm PySem.F.plainAttrs_list PySem.F.slot_list_append PySem.F.type_list_append mt_append (pe_var hN hv hd hcd) (pa_cons he pa_nil hs) hbase hfew hline hs hplain) hsw) fun D σ H q => ?_
  obtain ⟨G, ρ, S, h, s, e⟩ := q
  unfold sAppOwn at e
  cases hS : S[i]? with
  | none => rw [hS] at e; exact e.elim
  | some sl =>
    rw [hS] at e
    cases sl with
    | own n =>
      cases n with
      | lst xs =>
        simp only at e
        obtain ⟨o, ho, a, rfl, m, z, na, g⟩ := s.sl i _ hS
        obtain ⟨vs, e0, r0⟩ := m
        refine ⟨_, ho, Or.inl ⟨rfl, _, Or.inl (Or.inl e0)⟩, G, ρ, S, h, s, Sd.ex s (.refl s.hr s.tb) e (rel := RV (c.p X.K)) fun v h1 ρ1 H1 vv n1 rv e1 => ?_⟩
        cases v with
        | d v =>
          simp only at e1
          split at e1
          · rename_i hz
            have e01 := n1.fr a _ e0 (fun _ z => nomatch z) na
            refine ⟨a, vs, vv, rfl, rfl, e01, by rw [r0.length]; exact hz, ?_⟩
            obtain ⟨s3, l3⟩ := (s.nx n1).write (k' := .lst (xs ++ [v])) (o := .lst (vs ++ [vv])) hS ho fun ⟨w, hw, mw⟩ => ⟨_, upd_same, upd_dvs hw mw ((n1.dvs s.hr r0).append (.cons rv .nil))⟩
            exact e1 G _ _ _ (fun _ m => m) ((n1.lt s.hr).trans l3) s3
          · exact e1.elim
        | _ => exact e1.elim
      | _ => exact e.elim
    | _ => exact e.elim
/-- o.append(e), o a shared list -/
def sApp (fo fe : EX) : SX := fun S h => thenS S (fo S h) fun o h1 => match o with
  | .d (.ref j) => match h1[j]? with
    | some (.lst _) => thenS S (fe S h1) fun v h2 => match v, h2[j]? with
      | .d v, some (.lst xs) => if xs.length < sizeLine then some (.nx S (h2.set j (.lst (xs ++ [v])))) else none
      | _, _ => none
    | _ => none
  | _ => none
theorem cs_app {fo fe : EX} {apos cpos : Pos} (ho : CE X c eo fo) (he : CE X c e fe)
    (hbase : attributeBase eo "append" X.env (eval eo X.env) = eval eo X.env := by rfl)
    (hfew : ((backTo cpos (starEach (e :: []) X.env)).all (fun x => !x.1) && (backToKw cpos (keywordEach [] X.env)).all (fun x => x.1.isSome)
      && decide ((e :: []).length + ([] : List Keyword).length + (if ([] : List Keyword).isEmpty then 0 else 1) < 30)) = true := by rfl)
    (hline : (apos.endLine == cpos.line) = true := by rfl) (hs : starEach (e :: []) X.env = (false, eval e X.env) :: starEach [] X.env := by rfl) (hplain : (backTo cpos (starEach [] X.env)).any (·.1) = false := by rfl)
    (hsw : swapsWith (.Call (.Attribute eo "append" apos) [e] [] cpos) none pos.line X.env = pure false := by rfl) :
    CS X c (.Expr (.Call (.Attribute eo "append" apos) [e] [] cpos) pos) (sApp fo fe) := by
  refine ps_weak (ps_expr (pe_bm PySem.F.plainAttrs_list PySem.F.slot_list_append PySem.F.type_list_append mt_append ho (pa_cons he pa_nil hs) hbase hfew hline hs hplain) hsw) fun D σ H q => ?_
  obtain ⟨G, ρ, S, h, s, e⟩ := q
  refine ⟨G, ρ, S, h, s, Sd.ex s (.refl s.hr s.tb) e (rel := RV (c.p X.K)) fun o h1 ρ1 H1 ov n1 ro e1 => ?_⟩
  cases o with
  | d o =>
    cases o with
    | ref j =>
      simp only at e1
      cases hx : h1[j]? with
      | none => rw [hx] at e1; exact e1.elim
      | some x =>
        rw [hx] at e1
        cases x with
        | lst ys =>
          simp only at e1
          have ro' : DV X.K ρ1 H1 ov (.ref j) := ro
          cases ro' with
          | ref hj =>
            rename_i a
            obtain ⟨ws, e0, r0⟩ := n1.hr.ob j a _ hj hx
            refine ⟨Or.inl ⟨rfl, _, Or.inl (Or.inl e0)⟩, G, ρ1, S, h1, s.nx n1, Sd.ex s n1 e1 (rel := RV (c.p X.K)) fun v h2 ρ2 H2 vv n2 rv e2 => ?_⟩
            have n := n1.trans n2
            cases v with
            | d v =>
              cases hy : h2[j]? with
              | none => rw [hy] at e2; exact e2.elim
              | some y =>
                rw [hy] at e2
                cases y with
                | lst xs =>
                  simp only at e2
                  split at e2
                  · rename_i hz
                    have hj2 := pre_get n2.pre hj
                    obtain ⟨vs, e3, r3⟩ := n.hr.ob j a _ hj2 hy
                    refine ⟨a, vs, vv, rfl, rfl, e3, by rw [r3.length]; exact hz, ?_⟩
                    have m : MutO (.lst vs) := trivial
                    have nn := n.trans (Nx.write (x := .lst (xs ++ [v])) (o := .lst (vs ++ [vv])) n.hr n.tb hj2 e3 m ⟨_, upd_same, upd_dvs e3 m (r3.append (.cons rv .nil))⟩)
                    exact e2 G _ _ _ (fun _ m => m) (nn.lt s.hr) (s.nx nn)
                  · exact e2.elim
                | _ => exact e2.elim
            | _ => exact e2.elim
        | _ => exact e1.elim
    | _ => exact e1.elim
  | _ => exact e1.elim

/-! ### x += e -/
/-- ints, texts -/
def rIAdd : R2 := fun x y H Q => rI0 (fun i j => .int (i + j)) x y H Q ∨ (∃ i j, x = .str i ∧ y = .str j ∧ i.length + j.length ≤ sizeLine ∧ Q (.str (i ++ j)) H)
theorem iop_addA : OpR X (inplaceOp .Add) rIAdd := iop_add.or iop_add_str
def gIAdd : D → D → Option D
  | .int i, .int j => some (.int (i + j))
  | .str x, .str y => if x.length + y.length ≤ sizeLine then some (.str (x ++ y)) else none
  | _, _ => none
def gISub : D → D → Option D
  | .int i, .int j => some (.int (i - j))
  | _, _ => none
/-- what += comes to on data -/
def sAug (g : D → D → Option D) (i : Nat) (f : EX) : SX := fun S h => match S[i]? with
  | some (.d x) => thenS S (f S h) fun r h1 => match r with
    | .d y => match g x y with
      | some z => some (.nx (S.set i (.d z)) h1)
      | none => none
    | _ => none
  | _ => none
/-- data in, data out, nothing written -/
def Pi2 (X : Cx) (c : Cc) (r : R2) (g : D → D → Option D) : Prop := ∀ ρ h H x y a b z Q, HR (c.p X.K) ρ h H → LamX.Tabs c.T H → DV X.K ρ H x a → DV X.K ρ H y b → g a b = some z → (∀ H' v, Nx (c.p X.K) ρ H ρ h H' → DV X.K ρ H' v z → Q v H') → r x y H Q
theorem pi_add : Pi2 X c rIAdd gIAdd := by
  intro ρ h H x y a b z Q hr tb qa qb e k
  cases a <;> cases b <;> first | (cases e; done) | skip
  · cases e; cases qa; cases qb
    exact .inl ⟨_, _, rfl, rfl, k H _ (.refl hr tb) (.int _)⟩
  · simp only [gIAdd] at e
    split at e
    · cases e; cases qa; cases qb
      exact .inr ⟨_, _, rfl, rfl, by assumption, k H _ (.refl hr tb) (.str _)⟩
    · cases e
theorem pi_sub : Pi2 X c (rI0 fun i j => .int (i - j)) gISub := by
  intro ρ h H x y a b z Q hr tb qa qb e k
  cases a <;> cases b <;> first | (cases e; done) | skip
  cases e; cases qa; cases qb
  exact ⟨_, _, rfl, rfl, k H _ (.refl hr tb) (.int _)⟩
theorem cs_aug {op : Operator} {r : R2} {g : D → D → Option D} {i : Nat} {x : Str} {f : EX} {pos' : Pos} (hop : OpR X (inplaceOp op) r) (hp : Pi2 X c r g) (he : CE X c e f) (hN : X.N.Nodup) (hi : X.N[i]? = some x := by rfl) (hx : Loc X.env.scope x := by first | exact Or.inl rfl | exact Or.inr rfl)
    (hf : X.fn x = true ∨ X.env.scope.names.lookup x = some .local := by first | exact .inl rfl | exact .inr rfl | assumption) : CS X c (.AugAssign (.Name x pos') op e pos) (sAug g i f) := by
  refine ps_weak (ps_aug (ti := r) hN hi hx he hop hf) fun D σ H q => ?_
  obtain ⟨G, ρ, S, h, s, e⟩ := q
  unfold sAug at e
  cases hS : S[i]? with
  | none => rw [hS] at e; exact e.elim
  | some sl =>
    rw [hS] at e
    cases sl with
    | d xd =>
      simp only at e
      obtain ⟨o, ho, w, rfl, r0⟩ := s.sl i _ hS
      refine ⟨w, ho, G, ρ, S, h, s, Sd.ex s (.refl s.hr s.tb) e (rel := RV (c.p X.K)) fun v h1 ρ1 H1 vv n1 rv e1 => ?_⟩
      cases v with
      | d y =>
        simp only at e1
        cases hz : g xd y with
        | none => rw [hz] at e1; exact e1.elim
        | some z =>
          rw [hz] at e1
          refine hp ρ1 h1 H1 w vv xd y z _ n1.hr n1.tb (n1.dv s.hr r0) rv hz fun H2 v2 n2 q2 => ?_
          have n := n1.trans n2
          exact e1 G _ _ _ (fun _ m => m) (n.lt s.hr) (s.put (r := .d z) n q2 rfl)
      | _ => exact e1.elim
    | _ => exact e.elim
/-- tuples: x += e -/
theorem no_tuple_iadd : typeLookup (.type "tuple") (dunderI "add") = pure none := by kernel_rfl
theorem icat_tup {prog : Program} {w : World} {A : Around} {E : Value → Shared → Prop} {s : Shared} {t b : Addr} {vs ws : List Value} {Q : Value → Shared → Prop} (ht : IsTup s.heap t vs.toArray) (hb : IsTup s.heap b ws.toArray)
    (h0 : vs = [] → Q (.ref b) s) (h1 : vs ≠ [] → ws = [] → Q (.ref t) s) (h2 : vs ≠ [] → ws ≠ [] → Q (.ref s.heap.objs.size) { s with heap := s.heap.push { cls := .type "tuple", data := .seq (vs ++ ws).toArray } })
    (hsz : vs.length + ws.length ≤ sizeLine) : wpAny (model prog w) A (inplaceOp .Add (.ref t) (.ref b)) Q E s := by
  obtain ⟨⟨cls, dd, data, sl⟩, ho, hc, n, hd⟩ := id ht
  obtain ⟨⟨cls2, dd2, data2, sl2⟩, ho2, hc2, n2, hd2⟩ := id hb
  simp only at hc hd hc2 hd2
  subst hc hd hc2 hd2
  have e : vs.toArray ++ ws.toArray = (vs ++ ws).toArray := by simp
  refine wpAny_inplaceOp_concat ⟨_, ho, rfl⟩ ⟨_, ho2, rfl⟩ no_tuple_iadd noFill_tuple_add seq_tuple_add ?_
  by_cases hv : vs = []
  · subst hv
    exact call_meets PySem.F.slot_tuple_add ⟨_, ho, rfl⟩ PySem.F.entry_tuple_add (PySem.F.args_tuple_add_2 _ _) (tuple_addW0 t b ([] : List Value).toArray ws.toArray n n2 dd dd2 sl sl2 (by simp)) ⟨ho, ho2, h0 rfl⟩
  · by_cases hw : ws = []
    · exact call_meets PySem.F.slot_tuple_add ⟨_, ho, rfl⟩ PySem.F.entry_tuple_add (PySem.F.args_tuple_add_2 _ _) (tuple_addW1 t b vs.toArray ws.toArray n n2 dd dd2 sl sl2 (by simpa using hv) (by simp [hw])) ⟨ho, ho2, h1 hv hw⟩
    · refine call_meets PySem.F.slot_tuple_add ⟨_, ho, rfl⟩ PySem.F.entry_tuple_add (PySem.F.args_tuple_add_2 _ _) (tuple_addW2 t b vs.toArray ws.toArray n n2 dd dd2 sl sl2 (by simpa using hv) (by simpa using hw) (by rw [List.size_toArray, List.size_toArray]; exact hsz)) ⟨ho, ho2, ?_⟩
      rw [e]
      exact h2 hv hw
theorem iop_catA : OpR X (inplaceOp .Add) (rCatA X.K) := by
  intro pins s σ H x y v u Q I rx ry h
  obtain ⟨a, b, xs, ys, rfl, rfl, ha, hb, hz, q0, q1, q2⟩ := h
  cases rx
  cases ry
  obtain ⟨its, r1, p1, z1⟩ := I.tuple ha
  obtain ⟨its2, r2, p2, z2⟩ := I.tuple hb
  have hn : H s.heap.objs.size = none := I.hok.fresh (Nat.le_refl _)
  refine icat_tup p1 p2 (fun e => ⟨.ref b, H, I, rfl, q0 ((Vals.nil_iff r1).mp e)⟩) (fun e1 e2 => ⟨.ref a, H, I, rfl, q1 (fun z => e1 ((Vals.nil_iff r1).mpr z)) ((Vals.nil_iff r2).mp e2)⟩) (fun e1 e2 => ?_) (by rw [← r1.length, ← r2.length]; exact hz)
  refine ⟨.ref s.heap.objs.size, upd H s.heap.objs.size (.tup (xs ++ ys)), I.laid (t' := s.toks) (fun b u e => Heap.get?_push_of_some _ e) (Nat.le_refl _) ⟨by rw [List.length_append]; exact hz, _, r1.append r2, ⟨_, Heap.get?_push_size _ rfl, rfl, _, rfl⟩⟩, rfl,
    q2 (fun z => e1 ((Vals.nil_iff r1).mpr z)) (fun z => e2 ((Vals.nil_iff r2).mpr z)) _ hn⟩
def gICat : D → D → Option D
  | .tup xs, .tup ys => if xs.length + ys.length ≤ sizeLine then some (.tup (xs ++ ys)) else none
  | _, _ => none
theorem pi_cat : Pi2 X c (rCatA X.K) gICat := by
  intro ρ h H x y a b z Q hr tb qa qb e k
  cases a <;> cases b <;> first | (cases e; done) | skip
  simp only [gICat] at e
  split at e
  · rename_i xs ys hz
    cases e
    obtain ⟨p, vs, rfl, h1, r1⟩ := tup_of (p := c.p X.K) (Hb := H) (r := .d (.tup xs)) qa rfl
    obtain ⟨q, ws, rfl, h2, r2⟩ := tup_of (p := c.p X.K) (Hb := H) (r := .d (.tup ys)) qb rfl
    refine ⟨p, q, vs, ws, rfl, rfl, h1, h2, by rw [r1.length, r2.length]; exact hz, fun hv => ?_, fun hv hw => ?_, fun _ _ z hz => k _ _ (.alloc hr tb hz) (.tup (SqT.of upd_same) ((Ext.new hz).dvs (r1.append r2)))⟩
    · subst hv; cases r1
      exact k H _ (.refl hr tb) (.tup h2 r2)
    · subst hw; cases r2
      rw [List.append_nil] at k
      exact k H _ (.refl hr tb) (.tup h1 r1)
  · cases e
/-- a local list: x += e -/
def sExt (i : Nat) (f : EX) : SX := fun S h => match S[i]? with
  | some (.own (.lst xs)) => thenS S (f S h) fun r h1 => match lstOf r h1 with
    | some ys => if xs.length + ys.length ≤ sizeLine then some (.nx (S.set i (.own (.lst (xs ++ ys)))) h1) else none
    | none => none
  | _ => none
theorem cs_ext {i : Nat} {x : Str} {f : EX} {pos' : Pos} (he : CE X c e f) (hN : X.N.Nodup) (hi : X.N[i]? = some x := by rfl) (hx : Loc X.env.scope x := by first | exact Or.inl rfl | exact Or.inr rfl)
    (hf : X.fn x = true ∨ X.env.scope.names.lookup x = some .local := by first | exact .inl rfl | exact .inr rfl | assumption) : CS X c (.AugAssign (.Name x pos') .Add e pos) (sExt i f) := by
  refine ps_weak (ps_aug (ti := rExt2) hN hi hx he iop_ext hf) fun D σ H q => ?_
  obtain ⟨G, ρ, S, h, s, e⟩ := q
  unfold sExt at e
  cases hS : S[i]? with
  | none => rw [hS] at e; exact e.elim
  | some sl =>
    rw [hS] at e
    cases sl with
    | own n =>
      cases n with
      | lst xs =>
        simp only at e
        obtain ⟨o, ho, a, rfl, m, z, na, g⟩ := s.sl i _ hS
        obtain ⟨vs, e0, r0⟩ := m
        refine ⟨_, ho, G, ρ, S, h, s, Sd.ex s (.refl s.hr s.tb) e (rel := RV (c.p X.K)) fun v h1 ρ1 H1 vv n1 rv e1 => ?_⟩
        cases hl : lstOf v h1 with
        | none => simp only [hl] at e1; exact e1.elim
        | some ys =>
          simp only [hl] at e1
          split at e1
          · rename_i hz
            obtain ⟨b, ws, rfl, e2, r2⟩ := lst_of n1.hr rv hl
            have e01 := n1.fr a _ e0 (fun _ z => nomatch z) na
            refine ⟨a, b, vs, ws, rfl, rfl, e01, e2, by rw [r0.length, r2.length]; exact hz, ?_⟩
            obtain ⟨s3, l3⟩ := (s.nx n1).write (k' := .lst (xs ++ ys)) (o := .lst (vs ++ ws)) hS ho fun ⟨w, hw, mw⟩ => ⟨_, upd_same, upd_dvs hw mw ((n1.dvs s.hr r0).append r2)⟩
            have same : σ.set i (some (V.ref a)) = σ := by
              apply List.ext_getElem?
              intro j
              by_cases hj : j = i
              · subst hj
                rw [List.getElem?_set_self (List.getElem?_eq_some_iff.mp ho).1, ho]
              · rw [List.getElem?_set_ne (Ne.symm hj)]
            show D.nx (σ.set i (some (V.ref a))) _
            rw [same]
            exact e1 G _ _ _ (fun _ m => m) ((n1.lt s.hr).trans l3) s3
          · exact e1.elim
      | _ => exact e.elim
    | _ => exact e.elim
end
end Sh
set_option Elab.async false
set_option linter.all false
set_option maxRecDepth 100000
namespace Sh
open PySem PySem.Spec PyProof.Rows L2

/-! ### targets -/
abbrev TGx := D → Env' → Option Env'
abbrev TGsx := List D → Env' → Option Env'
def tG (K : PySem.W.Frag) (c : Cc) (ts : List Nat) (g : TGx) : TG := fun v σ H Q => ∃ G ρ S h d, Stt (c.p K) c.ρ0 c.H0 G ρ S h σ H ∧ DV K ρ H v d ∧ match g d S with
  | none => False
  | some S' => ∀ σ', σ'.length = σ.length → (∀ k, k ∉ ts → σ'[k]? = σ[k]?) → Stt (c.p K) c.ρ0 c.H0 G ρ S' h σ' H → Q σ' H
def tGs (K : PySem.W.Frag) (c : Cc) (ts : List Nat) (g : TGsx) : TGs := fun vs σ H Q => ∃ G ρ S h ds, Stt (c.p K) c.ρ0 c.H0 G ρ S h σ H ∧ DVs K ρ H vs ds ∧ match g ds S with
  | none => False
  | some S' => ∀ σ', σ'.length = σ.length → (∀ k, k ∉ ts → σ'[k]? = σ[k]?) → Stt (c.p K) c.ρ0 c.H0 G ρ S' h σ' H → Q σ' H
abbrev CG (X : Cx) (c : Cc) (tg : Expr) (ts : List Nat) (g : TGx) : Prop := PG X tg (tG X.K c ts g)
abbrev CGs (X : Cx) (c : Cc) (tg : List Expr) (ts : List Nat) (g : TGsx) : Prop := PGs X tg (tGs X.K c ts g)
def gNm (i : Nat) : TGx := fun d S => some (S.set i (.d d))
def gNilD : TGsx := fun ds S => match ds with
  | [] => some S
  | _ => none
def gConsD (g : TGx) (gs : TGsx) : TGsx := fun ds S => match ds with
  | d :: ds => match g d S with
    | some S1 => gs ds S1
    | none => none
  | [] => none
def gTupD (n : Nat) (gs : TGsx) : TGx := fun d S => match d with
  | .tup ds => if ds.length = n then gs ds S else none
  | _ => none
section
variable {X : Cx} {c : Cc} {e eo ei tg : Expr} {pos : Pos}
theorem pg_weak {t t' : TG} (he : PG X tg t) (h : ∀ v σ H Q, t' v σ H Q → t v σ H Q) : PG X tg t' := by
  refine ⟨?_⟩
  intro pins s σ H v u Q I r q
  exact he.run pins s σ H v u Q I r (h v σ H Q q)
theorem pgs_weak {tgs : List Expr} {t t' : TGs} (he : PGs X tgs t) (h : ∀ v σ H Q, t' v σ H Q → t v σ H Q) : PGs X tgs t' := by
  refine ⟨?_⟩
  intro pins s σ H v u Q I r q
  exact he.run pins s σ H v u Q I r (h v σ H Q q)
theorem cg_name {i : Nat} {x : Str} (hN : X.N.Nodup) (hi : X.N[i]? = some x := by rfl) (hx : Loc X.env.scope x := by first | exact Or.inl rfl | exact Or.inr rfl) (hf : X.fn x = true ∨ X.env.scope.names.lookup x = some .local := by first | exact .inl rfl | exact .inr rfl | assumption) :
    CG X c (.Name x pos) [i] (gNm i) := by
  refine pg_weak (pg_name hN hi hx hf) fun v σ H Q q => ?_
  obtain ⟨G, ρ, S, h, d, s, r, k⟩ := q
  exact k _ (by rw [List.length_set]) (fun j hj => List.getElem?_set_ne (fun z => hj (by simp [z]))) (s.put (r := .d d) (.refl s.hr s.tb) r rfl)
theorem cgs_nil {ts : List Nat} : CGs X c [] ts gNilD := by
  refine pgs_weak pgs_nil fun v σ H Q q => ?_
  obtain ⟨G, ρ, S, h, d, s, r, k⟩ := q
  cases r with
  | nil => exact ⟨rfl, k σ rfl (fun _ _ => rfl) s⟩
  | cons _ _ => exact k.elim
theorem cgs_cons {ts us : List Nat} {tgs : List Expr} {g : TGx} {gs : TGsx} (h1 : CG X c tg ts g) (h2 : CGs X c tgs us gs) (hs : (assignEach (tg :: tgs) X.env).map (·.2) = assign tg X.env :: (assignEach tgs X.env).map (·.2) := by rfl) : CGs X c (tg :: tgs) (ts ++ us) (gConsD g gs) := by
  refine pgs_weak (pgs_cons h1 h2 hs) fun v σ H Q q => ?_
  obtain ⟨G, ρ, S, h, d, s, r, k⟩ := q
  cases r with
  | nil => exact k.elim
  | cons r0 r =>
    rename_i v d vs ds
    simp only [gConsD] at k
    cases hg : g d S with
    | none => rw [hg] at k; exact k.elim
    | some S1 =>
      rw [hg] at k
      refine ⟨v, vs, rfl, G, ρ, S, h, d, s, r0, ?_⟩
      rw [hg]
      intro σ1 hl ho s1
      refine ⟨G, ρ, S1, h, ds, s1, r, ?_⟩
      cases hgs : gs ds S1 with
      | none => simp only [hgs] at k
      | some S2 =>
        simp only [hgs] at k
        exact fun σ2 hl2 ho2 s2 => k σ2 (hl2.trans hl) (fun j hj => (ho2 j fun z => hj (List.mem_append_right _ z)).trans (ho j fun z => hj (List.mem_append_left _ z))) s2
theorem cg_tup {ts : List Nat} {tgs : List Expr} {k n : Nat} {gs : TGsx} (hc : X.calm = true) (h : CGs X c tgs ts gs) (hn : (assignEach tgs X.env).length = n := by rfl) (hst : (assignEach tgs X.env).findIdx? (·.1) = none := by rfl) : CG X c (.Tuple tgs k pos) ts (gTupD n gs) := by
  refine pg_weak (pg_tup hc h hn hst) fun v σ H Q q => ?_
  obtain ⟨G, ρ, S, h, d, s, r, k⟩ := q
  cases d with
  | tup ds =>
    simp only [gTupD] at k
    split at k
    · exact k.elim
    · rename_i S' hS'
      split at hS'
      · rename_i hl
        cases r with
        | tup hs r =>
          refine ⟨_, _, rfl, hs, by rw [r.length]; exact hl, G, ρ, S, h, ds, s, r, ?_⟩
          rw [hS']
          exact k
      · cases hS'
  | _ => exact k.elim
/-- target = e -/
def sAsg (g : TGx) (f : EX) : SX := fun S h => thenS S (f S h) fun r h1 => match r with
  | .d d => match g d S with
    | some S' => some (.nx S' h1)
    | none => none
  | _ => none
theorem cs_asg {ts : List Nat} {g : TGx} {f : EX} (he : CE X c e f) (hg : CG X c tg ts g) (hs : swapsWithSole [tg] e pos.line X.env = pure false := by rfl) (hw : swappedStores [tg] e X.env = pure none := by rfl)
    (h1 : (assignEach [tg] X.env).map (·.2) = [assign tg X.env] := by rfl) : CS X c (.Assign [tg] e pos) (sAsg g f) := by
  refine ps_weak (ps_asg he hg hs hw h1) fun D σ H q => ?_
  obtain ⟨G, ρ, S, h, s, e⟩ := q
  refine ⟨G, ρ, S, h, s, Sd.ex s (.refl s.hr s.tb) e (rel := RV (c.p X.K)) fun v h1 ρ1 H1 vv n1 rv e1 => ?_⟩
  cases v with
  | d d =>
    simp only at e1
    refine ⟨G, ρ1, S, h1, d, s.nx n1, rv, ?_⟩
    cases hg : g d S with
    | none => rw [hg] at e1; exact e1
    | some S' => rw [hg] at e1; exact fun σ' _ _ s' => e1 G _ _ _ (fun _ m => m) (n1.lt s.hr) s'
  | _ => exact e1.elim

/-! ### what is walked -/
/-- an iterator gives these data, one a turn; fz: what its objects may be -/
def ItR (p : Pm) (fz : Addr → HO → Prop) (ρ : List Addr) (H : Hp) (J : It) (ds : List D) : Prop :=
  ∃ (Gd : Hp → Prop) (Y : Nat → Hp → V → Hp → Prop) (supp : List (Addr × HO)), Walk J ds.length Gd Y ∧ (∀ q ∈ supp, H q.1 = some q.2 ∧ NoTbl q.2 ∧ q.1 ∉ ρ ∧ fz q.1 q.2) ∧ (∀ H', (∀ q ∈ supp, H' q.1 = some q.2) → Gd H') ∧
    ∀ i ρ1 h1 H1 x H1', Lt p.K ρ H ρ1 H1 → (∀ q ∈ supp, H1 q.1 = some q.2) → HR p ρ1 h1 H1 → LamX.Tabs p.T H1 → i < ds.length → Y i H1 x H1' → Nx p ρ1 H1 ρ1 h1 H1' ∧ ∃ d, ds[i]? = some d ∧ DV p.K ρ1 H1' x d
abbrev IX := Env' → Hs → Option (Rs (List D))
/-- in an expression; in a statement -/
abbrev FZ := List (Addr × HO) → Hp → Addr → HO → Prop
def fzE : FZ := fun _ _ _ _ => True
def fzS (c : Cc) : FZ := fun G Hb a o => Hb a = none ∨ ¬ MutO o ∨ Kn G c.H0 a
def tI (K : PySem.W.Frag) (c : Cc) (fz : FZ) (f : IX) : TI := fun σ H R => ∃ G ρ S h, Stt (c.p K) c.ρ0 c.H0 G ρ S h σ H ∧
  Ed (c.p K) (fun cls d H' => c.W cls d σ H') ρ H (f S h) (fun ρ' Hb H' J ds => ItR (c.p K) (fz G Hb) ρ' H' J ds) R
abbrev CI (X : Cx) (c : Cc) (fz : FZ) (tg e : Expr) (f : IX) : Prop := PI X tg e (tI X.K c fz f)
theorem pi_weak {t t' : TI} (he : PI X tg e t) (h : ∀ σ H R, t' σ H R → t σ H R) : PI X tg e t' := by
  refine ⟨?_⟩
  intro pins s σ H R I q
  exact he.run pins s σ H R I (h σ H R q)
/-- a list, a tuple, a text -/
def iAny (K : PySem.W.Frag) (te : TE) : TI := fun σ H R => te σ H fun v H1 => (∃ a, v = .ref a ∧ (∃ xs, SqL K H1 a xs) ∧ R (Itl K a) H1) ∨ (∃ a, v = .ref a ∧ (∃ xs, SqT K H1 a xs) ∧ R (Itt K a) H1) ∨ (∃ x, v = .str x ∧ R (Its x) H1)
theorem pi_any {te : TE} (he : PE X e te) : PI X tg e (iAny X.K te) := by
  refine ⟨fun pins s σ H R I h => ?_⟩
  refine thn (he.run pins s σ H _ I h) fun v s1 ⟨x, H1, I1, r1, q1⟩ => ?_
  rcases q1 with ⟨a, e, ⟨xs, hq⟩, q⟩ | ⟨a, e, ⟨xs, hq⟩, q⟩ | ⟨x, ex, q⟩
  · subst e
    cases r1
    obtain ⟨its, rv, p, hz⟩ := I1.list hq
    refine wpAny_pyIter_list p.isList ?_
    refine ⟨s1.heap.objs.size, [s1.heap.objs.size], _, _, H1, rfl, I1.kept (t' := s1.toks) fun b o e => Heap.get?_push_of_some _ e, turn_list a _, ⟨_, Heap.get?_push_size _ rfl, rfl, rfl⟩, fun b hb => ?_, q⟩
    have e : b = s1.heap.objs.size := by simpa using hb
    subst e
    exact I1.fpOk (Nat.le_refl _) (I1.hok.fresh (Nat.le_refl _))
  · subst e
    cases r1
    obtain ⟨its, rv, p, hz⟩ := I1.tuple hq
    refine wpAny_pyIter_tuple (show s1.heap.IsTuple a its.toArray from p) ?_
    refine ⟨s1.heap.objs.size, [s1.heap.objs.size], _, _, H1, rfl, I1.kept (t' := s1.toks) fun b o e => Heap.get?_push_of_some _ e, turn_tuple a _, ⟨_, Heap.get?_push_size _ rfl, rfl, rfl⟩, fun b hb => ?_, q⟩
    have e : b = s1.heap.objs.size := by simpa using hb
    subst e
    exact I1.fpOk (Nat.le_refl _) (I1.hok.fresh (Nat.le_refl _))
  · subst ex
    obtain ⟨t, rfl⟩ := r1
    cases ha : x.cps.all (· < 128)
    · exact wpAny_pyIter_wide ha (pi_one (tk := s1.toks) I1 _ (turn_str _ x t "str_iterator" (.inr rfl)) ⟨_, Heap.get?_push_size _ rfl, rfl, rfl⟩ q)
    · exact wpAny_pyIter_ascii ha (pi_one (tk := s1.toks) I1 _ (turn_str _ x t "str_ascii_iterator" (.inl rfl)) ⟨_, Heap.get?_push_size _ rfl, rfl, rfl⟩ q)
def signs (z : Str) : List D := z.cps.toList.map fun n => .str ⟨#[n]⟩
/-- the items of what an expression gave -/
def itemsE : R → Option (List D)
  | .d (.tup xs) => some xs
  | .d (.str z) => some (signs z)
  | .new (.lst xs) => some xs
  | .bor (.lst xs) => some xs
  | .bor (.fz xs) => some xs
  | _ => none
def itemsS : R → Option (List D)
  | .bor (.lst _) => none
  | r => itemsE r
theorem itR_str {p : Pm} {fz : Addr → HO → Prop} {ρ : List Addr} {H : Hp} {z : Str} : ItR p fz ρ H (Its z) (signs z) := by
  have e : (signs z).length = z.cps.size := by simp [signs]
  refine ⟨fun _ => True, _, [], by rw [e]; exact walk_str, fun _ m => absurd m (by simp), fun _ _ => trivial, fun i ρ1 h1 H1 x H1' l _ hr tb hi y => ?_⟩
  obtain ⟨rfl, n, hn, rfl⟩ := y
  refine ⟨.refl hr tb, .str ⟨#[n]⟩, ?_, .str _⟩
  simp only [signs, List.getElem?_map, Array.getElem?_toList, hn, Option.map_some]
theorem itR_seq {p : Pm} {fz : Addr → HO → Prop} {ρ : List Addr} {H : Hp} {a : Addr} {vs : List V} {ds : List D} {J : It} {Gd : Hp → Prop} (supp : List (Addr × HO)) (w : Walk J vs.length Gd (YAt vs)) (r : DVs p.K ρ H vs ds) (hs : ∀ q ∈ supp, H q.1 = some q.2 ∧ NoTbl q.2 ∧ q.1 ∉ ρ ∧ fz q.1 q.2)
    (hg : ∀ H', (∀ q ∈ supp, H' q.1 = some q.2) → Gd H') : ItR p fz ρ H J ds := by
  refine ⟨Gd, _, supp, by rw [← r.length]; exact w, hs, hg, fun i ρ1 h1 H1 x H1' l _ hr tb hi y => ?_⟩
  obtain ⟨rfl, hx⟩ := y
  obtain ⟨d, h1, h2⟩ := (l.dvs r).get hx
  exact ⟨.refl hr tb, d, h1, h2⟩
theorem KL.sql {K : PySem.W.Frag} {H : Hp} {a : Addr} {vs : List V} (h : KL K a vs) : SqL K H a vs := .inr h
theorem itR_fz {p : Pm} {fz : Addr → HO → Prop} {ρ : List Addr} {H : Hp} {kn : Addr → Prop} {a : Addr} {ds : List D} (q : BR p ρ H kn a (.fz ds)) (hf : ∀ o vs, fz a (.frz o (.lst vs))) : (∃ xs, SqL p.K H a xs) ∧ ItR p fz ρ H (Itl p.K a) ds := by
  obtain ⟨vs, r, k | ⟨⟨o, k⟩, na, _⟩⟩ := q
  · exact ⟨⟨vs, .inr k⟩, itR_seq (a := a) [] (walk_list (xs := vs)) r (fun _ m => absurd m (by simp)) fun _ _ => .inr k⟩
  · refine ⟨⟨vs, .inl (.inr ⟨o, k⟩)⟩, itR_seq (a := a) [(a, .frz o (.lst vs))] (walk_list (xs := vs)) r (fun q m => ?_) fun H' hq => ?_⟩
    · simp only [List.mem_singleton] at m; subst m
      exact ⟨k, (by intro ps z; cases z), na, hf o vs⟩
    · exact .inl (.inr ⟨o, hq _ (List.mem_singleton.mpr rfl)⟩)
theorem itR_tup {p : Pm} {fz : Addr → HO → Prop} {ρ : List Addr} {h : Hs} {H : Hp} {a : Addr} {vs : List V} {ds : List D} (hr : HR p ρ h H) (hs : SqT p.K H a vs) (r : DVs p.K ρ H vs ds) (hf : ∀ o, ¬ MutO o → fz a o) : ItR p fz ρ H (Itt p.K a) ds := by
  rcases hs with (k | ⟨o, k⟩) | k
  · refine itR_seq (a := a) [(a, .tup vs)] (walk_tup (xs := vs)) r (fun q m => ?_) fun H' hq => .inl (.inl (hq _ (List.mem_singleton.mpr rfl)))
    simp only [List.mem_singleton] at m; subst m
    exact ⟨k, (by intro ps z; cases z), rd_not (hr := hr) (u := .tup vs) (o := .tup vs) k (fun z => z), hf _ (fun z => z)⟩
  · refine itR_seq (a := a) [(a, .frz o (.tup vs))] (walk_tup (xs := vs)) r (fun q m => ?_) fun H' hq => .inl (.inr ⟨o, hq _ (List.mem_singleton.mpr rfl)⟩)
    simp only [List.mem_singleton] at m; subst m
    exact ⟨k, (by intro ps z; cases z), rd_not (hr := hr) (u := .tup vs) (o := .frz o (.tup vs)) k (fun z => z), hf _ (fun z => z)⟩
  · exact itR_seq (a := a) [] (walk_tup (xs := vs)) r (fun _ m => absurd m (by simp)) fun _ _ => .inr k
theorem itR_lst {p : Pm} {fz : Addr → HO → Prop} {ρ : List Addr} {H : Hp} {a : Addr} {vs : List V} {ds : List D} (hs : H a = some (.lst vs)) (na : a ∉ ρ) (r : DVs p.K ρ H vs ds) (hf : fz a (.lst vs)) : ItR p fz ρ H (Itl p.K a) ds := by
  refine itR_seq (a := a) [(a, .lst vs)] (walk_list (xs := vs)) r (fun q m => ?_) fun H' hq => SqL.of (hq _ (List.mem_singleton.mpr rfl))
  simp only [List.mem_singleton] at m; subst m
  exact ⟨hs, (by intro ps z; cases z), na, hf⟩
def iE (g : R → Option (List D)) (f : EX) : IX := fun S h => andThen (f S h) fun r h1 => lift (g r) h1
theorem ci_E {f : EX} (he : CE X c e f) : CI X c fzE tg e (iE itemsE f) := by
  refine pi_weak (pi_any he) fun σ H R q => ?_
  obtain ⟨G, ρ, S, h, s, e⟩ := q
  refine ⟨G, ρ, S, h, s, e.bind (rel := RV (c.p X.K)) fun r h1 ρ1 H1 v n1 rv e1 => ?_⟩
  cases hi : itemsE r with
  | none => rw [hi] at e1; exact e1.elim
  | some ds =>
    rw [hi] at e1
    have k := fun J (z : ItR (c.p X.K) (fzE G H) ρ1 H1 J ds) => e1 ρ1 H1 J n1 z
    cases r with
    | d x =>
      cases x with
      | tup xs =>
        cases hi
        obtain ⟨a, vs, rfl, h2, r2⟩ := tup_of rv rfl
        exact .inr (.inl ⟨a, rfl, ⟨vs, h2⟩, k _ (itR_tup n1.hr h2 r2 fun _ _ => trivial)⟩)
      | str z => cases hi; cases rv; exact .inr (.inr ⟨z, rfl, k _ itR_str⟩)
      | _ => cases hi
    | new kk =>
      cases kk with
      | lst xs =>
        cases hi
        obtain ⟨a, rfl, z, na, vs, h2, r2⟩ := rv
        exact .inl ⟨a, rfl, ⟨vs, SqL.of h2⟩, k _ (itR_lst h2 na r2 trivial)⟩
      | _ => cases hi
    | bor kk =>
      cases kk with
      | lst xs =>
        cases hi
        obtain ⟨a, rfl, vs, r2, h2, na, _⟩ := rv
        exact .inl ⟨a, rfl, ⟨vs, SqL.of h2⟩, k _ (itR_lst h2 na r2 trivial)⟩
      | fz xs =>
        cases hi
        obtain ⟨a, rfl, br⟩ := rv
        obtain ⟨h2, h3⟩ := itR_fz (fz := fzE G H) br fun _ _ => trivial
        exact .inl ⟨a, rfl, h2, k _ h3⟩
      | dct xs => cases hi
theorem ci_S {f : EX} (he : CE X c e f) : CI X c (fzS c) tg e (iE itemsS f) := by
  refine pi_weak (pi_any he) fun σ H R q => ?_
  obtain ⟨G, ρ, S, h, s, e⟩ := q
  refine ⟨G, ρ, S, h, s, e.bind (rel := RV (c.p X.K)) fun r h1 ρ1 H1 v n1 rv e1 => ?_⟩
  cases hi : itemsS r with
  | none => rw [hi] at e1; exact e1.elim
  | some ds =>
    rw [hi] at e1
    have k := fun J (z : ItR (c.p X.K) (fzS c G H) ρ1 H1 J ds) => e1 ρ1 H1 J n1 z
    cases r with
    | d x =>
      cases x with
      | tup xs =>
        cases hi
        obtain ⟨a, vs, rfl, h2, r2⟩ := tup_of rv rfl
        exact .inr (.inl ⟨a, rfl, ⟨vs, h2⟩, k _ (itR_tup n1.hr h2 r2 fun _ z => .inr (.inl z))⟩)
      | str z => cases hi; cases rv; exact .inr (.inr ⟨z, rfl, k _ itR_str⟩)
      | _ => cases hi
    | new kk =>
      cases kk with
      | lst xs =>
        cases hi
        obtain ⟨a, rfl, z, na, vs, h2, r2⟩ := rv
        exact .inl ⟨a, rfl, ⟨vs, SqL.of h2⟩, k _ (itR_lst h2 na r2 (.inl z))⟩
      | _ => cases hi
    | bor kk =>
      cases kk with
      | lst xs => cases hi
      | fz xs =>
        cases hi
        obtain ⟨a, rfl, br⟩ := rv
        obtain ⟨h2, h3⟩ := itR_fz (fz := fzS c G H) br fun _ _ => .inr (.inl fun z => z)
        exact .inl ⟨a, rfl, h2, k _ h3⟩
      | dct xs => cases hi
/-- range(n), range(a, b) -/
def rangeD (a b : Int) : List D := (List.range (b - a).toNat).map fun i => .int (a + (i : Nat))
def inRg (n : Int) : Bool := decide (-4611686018427387904 ≤ n ∧ n < 4611686018427387904)
theorem inRg_ok {n : Int} (h1 : -4611686018427387904 ≤ n) (h2 : n < 4611686018427387904) : inRg n = true := decide_eq_true ⟨h1, h2⟩
def iRg1 (f : EX) : IX := fun S h => andThen (f S h) fun r h1 => match intOf r with
  | some n => if inRg n = true then some (.ok (rangeD 0 n) h1) else none
  | _ => none
def iRg2 (f : AX) : IX := fun S h => andThen (f S h) fun rs h1 => match rs with
  | [a, b] => match intOf a, intOf b with
    | some a, some b => if (inRg a && inRg b) = true then some (.ok (rangeD a b) h1) else none
    | _, _ => none
  | _ => none
theorem inRg_of {n : Int} (h : inRg n = true) : -(2 ^ 62) ≤ n ∧ n < 2 ^ 62 := by
  rw [show (2 : Int) ^ 62 = 4611686018427387904 from by decide]
  exact of_decide_eq_true h
theorem itR_range {p : Pm} {fz : Addr → HO → Prop} {ρ : List Addr} {H : Hp} {a b : Int} : ItR p fz ρ H (Itr a (b - a).toNat) (rangeD a b) := by
  have e : (rangeD a b).length = (b - a).toNat := by simp [rangeD]
  refine ⟨fun _ => True, _, [], by rw [e]; exact walk_range, fun _ m => absurd m (by simp), fun _ _ => trivial, fun i ρ1 h1 H1 x H1' l _ hr tb hi y => ?_⟩
  obtain ⟨rfl, rfl⟩ := y
  refine ⟨.refl hr tb, .int (a + (i : Nat)), ?_, .int _⟩
  rw [e] at hi
  simp [rangeD, hi]
theorem ci_range1 {fz : FZ} {f : EX} {p : Pos} (hg : Gl X "range") (hm : X.mg "range" = none) (ha : CE X c e f) (hs : starEach [e] X.env = [(false, eval e X.env)] := by rfl) (hs0 : starEach [e] X.env = (false, eval e X.env) :: starEach [] X.env := by rfl) : CI X c fz tg (.Call (.Name "range" p) [e] [] pos) (iRg1 f) := by
  refine pi_weak (pi_range1 hg hm (pa_cons ha pa_nil hs0) hs) fun σ H R q => ?_
  obtain ⟨G, ρ, S, h, s, e⟩ := q
  refine ⟨G, ρ, S, h, s, e.bind (rel := RV (c.p X.K)) fun r h1 ρ1 H1 v n1 rv e1 => ?_⟩
  cases hi : intOf r with
  | none => rw [hi] at e1; exact e1.elim
  | some n =>
    rw [hi] at e1
    simp only at e1
    split at e1
    · rename_i hz
      have hz := inRg_of hz
      have z := itR_range (p := c.p X.K) (fz := fz G H) (ρ := ρ1) (H := H1) (a := 0) (b := n)
      have k := e1 ρ1 H1 _ n1 z
      rw [Int.sub_zero] at k
      exact ⟨n, by rw [int_of rv hi], hz.1, hz.2, k⟩
    · exact e1.elim
theorem ci_range2 {fz : FZ} {f : AX} {p : Pos} {b : Expr} (hg : Gl X "range") (hm : X.mg "range" = none) (ha : CA X c [e, b] f) (hs : starEach [e, b] X.env = [(false, eval e X.env), (false, eval b X.env)] := by rfl) (hs2 : starEach [b] X.env = [(false, eval b X.env)] := by rfl) : CI X c fz tg (.Call (.Name "range" p) [e, b] [] pos) (iRg2 f) := by
  refine pi_weak (pi_range2 hg hm ha hs hs2) fun σ H R q => ?_
  obtain ⟨G, ρ, S, h, s, e⟩ := q
  refine ⟨G, ρ, S, h, s, e.bind (rel := RVs (c.p X.K)) fun rs h1 ρ1 H1 vs n1 rv e1 => ?_⟩
  cases rv with
  | nil => exact e1.elim
  | cons q1 t =>
    cases t with
    | nil => exact e1.elim
    | cons q2 t =>
      cases t with
      | cons _ _ => exact e1.elim
      | nil =>
        rename_i x a y b
        simp only at e1
        cases ia : intOf a with
        | none => rw [ia] at e1; exact e1.elim
        | some i =>
          cases ib : intOf b with
          | none => rw [ia, ib] at e1; exact e1.elim
          | some j =>
            rw [ia, ib] at e1
            simp only at e1
            split at e1
            · rename_i hz
              rw [Bool.and_eq_true] at hz
              have za := inRg_of hz.1
              have zb := inRg_of hz.2
              exact ⟨i, j, by rw [int_of q1 ia, int_of q2 ib], ⟨za.1, za.2, zb.1, zb.2⟩, e1 ρ1 H1 _ n1 (itR_range (p := c.p X.K) (fz := fz G H) (ρ := ρ1) (H := H1) (a := i) (b := j))⟩
            · exact e1.elim
/-- a variable that is not the def's own list -/
def itemsV : Option Sl → Option (List D)
  | some (.d (.tup xs)) => some xs
  | some (.d (.str z)) => some (signs z)
  | some (.bor (.lst xs)) => some xs
  | some (.bor (.fz xs)) => some xs
  | _ => none
def iV (i : Nat) : IX := fun S h => lift (itemsV S[i]?) h
theorem ci_V {i : Nat} {x : Str} (hN : X.N[i]? = some x := by rfl) (hv : Vis X.env.scope x := by first | exact Or.inl rfl | exact Or.inr (Or.inl rfl) | exact Or.inr (Or.inr rfl)) (hd : (x == ("__debug__" : Str)) = false := by decide)
    (hcd : (x == ("__classdict__" : Str)) = false := by decide) : CI X c (fzS c) tg (.Name x pos) (iV i) := by
  refine pi_weak (pi_any (pe_var hN hv hd hcd)) fun σ H R q => ?_
  obtain ⟨G, ρ, S, h, s, e⟩ := q
  unfold iV at e
  cases hS : S[i]? with
  | none => rw [hS] at e; exact e.elim
  | some sl =>
    rw [hS] at e
    obtain ⟨o, ho, v⟩ := s.sl i sl hS
    have n0 : Nx (c.p X.K) ρ H ρ h H := .refl s.hr s.tb
    cases sl with
    | d x =>
      obtain ⟨w, rfl, r⟩ := v
      cases x with
      | tup xs =>
        obtain ⟨a, vs, rfl, h2, r2⟩ := tup_of (p := c.p X.K) (ρ := ρ) (Hb := H) (H := H) (r := .d (.tup xs)) r rfl
        exact ⟨_, ho, .inr (.inl ⟨a, rfl, ⟨vs, h2⟩, e ρ H _ n0 (itR_tup s.hr h2 r2 fun _ z => .inr (.inl z))⟩)⟩
      | str z => cases r; exact ⟨_, ho, .inr (.inr ⟨z, rfl, e ρ H _ n0 itR_str⟩)⟩
      | _ => exact e.elim
    | bor k =>
      cases k with
      | lst xs =>
        obtain ⟨a, rfl, vs, r2, h2, na, kn⟩ := v
        exact ⟨_, ho, .inl ⟨a, rfl, ⟨vs, SqL.of h2⟩, e ρ H _ n0 (itR_lst h2 na r2 (.inr (.inr kn)))⟩⟩
      | fz xs =>
        obtain ⟨a, rfl, br⟩ := v
        obtain ⟨h2, h3⟩ := itR_fz (fz := fzS c G H) br fun _ _ => .inr (.inl fun z => z)
        exact ⟨_, ho, .inl ⟨a, rfl, h2, e ρ H _ n0 h3⟩⟩
      | dct xs => exact e.elim
    | _ => exact e.elim
end
end Sh
set_option Elab.async false
set_option linter.all false
set_option maxRecDepth 100000
namespace Sh
open PySem PySem.Spec PyProof.Rows L2

/-! ### for -/
section
variable {X : Cx} {c : Cc} {e eo ei tg : Expr} {pos : Pos}
def forL (g : TGx) (f : SX) : List D → SX
  | [] => fun S h => some (.nx S h)
  | d :: ds => fun S h => match g d S with
    | none => none
    | some S1 => match f S1 h with
      | some (.nx S2 h2) => forL g f ds S2 h2
      | some (.ct S2 h2) => forL g f ds S2 h2
      | some (.brk S2 h2) => some (.nx S2 h2)
      | r => r
def sFor (i : IX) (g : TGx) (f : SX) : SX := fun S h => thenS S (i S h) fun ds h1 => forL g f ds S h1
/-- more is held -/
theorem SV.hold {p : Pm} {ρ : List Addr} {G supp : List (Addr × HO)} {H0 H : Hp} {s : Sl} {o : Option V} (v : SV p ρ G H0 H s o) (hs : ∀ k a, s = .own k → o = some (.ref a) → ∀ q ∈ supp, q.1 ≠ a) : SV p ρ (G ++ supp) H0 H s o := by
  cases s with
  | none => trivial
  | d x => exact v
  | own k =>
    obtain ⟨a, e, m, z, na, g⟩ := v
    refine ⟨a, e, m, z, na, fun q hq => ?_⟩
    rcases List.mem_append.mp hq with hq | hq
    · exact g q hq
    · exact hs k a rfl e q hq
  | bor k =>
    obtain ⟨a, e, m⟩ := v
    refine ⟨a, e, m.imp fun z => ?_⟩
    rcases z with z | ⟨q, hq, z⟩
    · exact .inl z
    · exact .inr ⟨q, List.mem_append_left _ hq, z⟩
theorem Stt.hold {c : Cc} {p : Pm} {ρ0 ρ ρ1 : List Addr} {G supp : List (Addr × HO)} {S : Env'} {σ : L2.St} {h h1 : Hs} {H H1 : Hp} (s : Stt p ρ0 c.H0 G ρ S h σ H) (n : Nx p ρ H ρ1 h1 H1) (hs : ∀ q ∈ supp, H1 q.1 = some q.2 ∧ NoTbl q.2 ∧ q.1 ∉ ρ1 ∧ fzS c G H q.1 q.2) :
    Stt p ρ0 c.H0 (G ++ supp) ρ1 S h1 σ H1 := by
  have t := s.nx n
  refine { t with gh := fun q hq => ?_, sl := fun i sl hi => ?_ }
  · rcases List.mem_append.mp hq with hq | hq
    · exact t.gh q hq
    · exact ⟨(hs q hq).1, (hs q hq).2.1, (hs q hq).2.2.1⟩
  · obtain ⟨o, eo, v⟩ := t.sl i sl hi
    refine ⟨o, eo, v.hold fun k a es ea q hq eq => ?_⟩
    obtain ⟨h1, _, _, h4⟩ := hs q hq
    subst es
    obtain ⟨b, eb, m, z0, _, gg⟩ := v
    rw [ea] at eb; cases eb
    obtain ⟨u, e1, e2⟩ := m.mut
    rcases h4 with z | z | z
    · obtain ⟨o', eo', v'⟩ := s.sl i _ hi
      obtain ⟨b', eb', m', _⟩ := v'
      rw [eo] at eo'; cases eo'
      rw [ea] at eb'; cases eb'
      obtain ⟨u', e1', _⟩ := m'.mut
      rw [← eq, z] at e1'; cases e1'
    · rw [← eq, h1] at e1; cases e1; exact z e2
    · rw [eq] at z
      rcases z with z | ⟨q2, hq2, z⟩
      · exact z z0
      · exact gg q2 hq2 z
theorem cs_for {ts : List Nat} {g : TGx} {f : SX} {i : IX} {body : List Stmt} (hp : PassesOwn (model X.prog X.w) X.A X.env X.xe) (hc : X.calm = true) (hi : CI X c (fzS c) tg e i) (hg : CG X c tg ts g) (hb : CSs X c body f)
    (hs : ∀ x, foldedSetIterable e X.env x = pure x := by intro _; rfl) : CS X c (.For tg e body [] pos) (sFor i g f) := by
  refine ps_weak (ps_for hp hc hi hg hb hs) fun D σ H q => ?_
  obtain ⟨G, ρ, S, h, s, e⟩ := q
  refine ⟨G, ρ, S, h, s, Sd.ex s (.refl s.hr s.tb) e (rel := fun ρ' Hb H' J ds => ItR (c.p X.K) (fzS c G Hb) ρ' H' J ds) fun ds h1 ρ1 H1 J n1 it e1 => ?_⟩
  obtain ⟨Gd, Y, supp, w, hsup, hgd, hy⟩ := it
  have l1 := n1.lt s.hr
  refine for_it w (fun i σ' H' => ∃ G' ρ' S' h', (∀ q ∈ G, q ∈ G') ∧ (∀ q ∈ supp, q ∈ G') ∧ Lt X.K ρ1 H1 ρ' H' ∧ Stt (c.p X.K) c.ρ0 c.H0 G' ρ' S' h' σ' H' ∧ Sd (c.p X.K) c.ρ0 c.H0 c.W G' ρ' H' D (forL g f (ds.drop i) S' h'))
    ?_ ?_ ?_ ?_
  · exact ⟨G ++ supp, ρ1, S, h1, fun q m => List.mem_append_left _ m, fun q m => List.mem_append_right _ m, .refl, s.hold n1 hsup, Sd.later e1 l1 fun q m => List.mem_append_left _ m⟩
  · rintro i σ' H' hi ⟨G', ρ', S', h', hG, hS, l, s', e'⟩
    exact hgd H' fun q m => (s'.gh q (hS q m)).1
  · rintro i x σ' H' H'' hi ⟨G', ρ', S', h', hG, hS, l, s', e'⟩ y
    obtain ⟨n2, d, hd, dv⟩ := hy i ρ' h' H' x H'' l (fun q m => (s'.gh q (hS q m)).1) s'.hr s'.tb hi y
    have ed : ds.drop i = d :: ds.drop (i + 1) := by
      obtain ⟨hlt, hv⟩ := List.getElem?_eq_some_iff.mp hd
      rw [List.drop_eq_getElem_cons hlt, hv]
    rw [ed] at e'
    simp only [forL] at e'
    have l2 := n2.lt s'.hr
    refine ⟨G', ρ', S', h', d, s'.nx n2, dv, ?_⟩
    cases hgd' : g d S' with
    | none => rw [hgd'] at e'; exact e'
    | some S1 =>
      rw [hgd'] at e'
      simp only at e'
      intro σ1 _ _ s1
      refine ⟨G', ρ', S1, h', s1, ?_⟩
      cases hf : f S1 h' with
      | none => rw [hf] at e'; exact e'
      | some r =>
        rw [hf] at e'
        cases r with
        | nx S2 h2 => exact fun G2 ρ2 σ2 H2 g2 l3 s2 => ⟨G2, ρ2, S2, h2, fun q m => g2 q (hG q m), fun q m => g2 q (hS q m), l.trans (l2.trans l3), s2, Sd.later e' (l2.trans l3) g2⟩
        | ct S2 h2 => exact fun G2 ρ2 σ2 H2 g2 l3 s2 => ⟨G2, ρ2, S2, h2, fun q m => g2 q (hG q m), fun q m => g2 q (hS q m), l.trans (l2.trans l3), s2, Sd.later e' (l2.trans l3) g2⟩
        | brk S2 h2 => exact fun G2 ρ2 σ2 H2 g2 l3 s2 => e' G2 ρ2 σ2 H2 g2 (l2.trans l3) s2
        | ret r h2 => exact e'
        | exc k S2 h2 => exact fun G2 ρ2 σ2 H2 g2 l3 s2 => e' G2 ρ2 σ2 H2 g2 (l2.trans l3) s2
  · rintro σ' H' ⟨G', ρ', S', h', hG, hS, l, s', e'⟩
    rw [List.drop_length] at e'
    exact e' G' ρ' σ' H' (fun _ m => m) .refl s'
end
end Sh
set_option Elab.async false
set_option linter.all false
set_option maxRecDepth 100000
set_option maxHeartbeats 1000000
/-! Sh10: generator expressions whose element may be anything that the rules serve. -/
namespace Sh
open PySem PySem.Spec PyProof.Rows L2

structure GSc (N : List Str) (sc scope : Scope) (own : List (Str × Nat)) : Prop where
  blk : BlkOk N sc scope own
  co : scope.isCoroutine = false
  cell : ∀ y ∈ scope.names, y.2 ≠ .cell
  dot : scope.names.lookup (".0" : Str) = some NameKind.local
def gscB (N : List Str) (sc scope : Scope) (own : List (Str × Nat)) : Bool :=
  blkC N sc scope own && !scope.isCoroutine && (scope.names.all fun y => !decide (y.2 = .cell)) && decide (scope.names.lookup (".0" : Str) = some NameKind.local)
theorem gsc_by {N : List Str} {sc scope : Scope} {own : List (Str × Nat)} (h : gscB N sc scope own = true) : GSc N sc scope own := by
  unfold gscB at h
  simp only [Bool.and_eq_true, Bool.not_eq_true', decide_eq_true_eq, List.all_eq_true, decide_eq_false_iff_not] at h
  obtain ⟨⟨⟨h1, h2⟩, h3⟩, h4⟩ := h
  exact ⟨blkOk_by h1, h2, h3, h4⟩
/-- the context of its element -/
abbrev gCx (X : Cx) (B : Around) (s : Shared) (H : Hp) (cenv : Env) (fp : List Addr) (pn : List (Addr × Obj)) : Cx :=
  { X with A := B.deeper cenv, s_0 := s, H_0 := H, env := cenv, outer := X.stack, stack := cenv :: X.stack, ex := fp, fn := fun _ => false, calm := true, pn := pn, xe := fun _ _ => False }
section
variable {X : Cx} {pins : List (Addr × Obj)} {σ : L2.St} {H : Hp} {s : Shared}
theorem g_start {B : Around} {scope : Scope} {own : List (Str × Nat)} {fp : List Addr} {code : Value} {h' : Heap} {m : Str → Option Value} {fo go : Obj} {gs : GenState} {tk : Nat} (I : Inv X pins σ H s) (S : GSc X.N X.env.scope scope own) (hN : X.N.Nodup)
    (hB : B.handled = none) (hf : B.frames = some X.stack) (hfp : ∀ b ∈ fp, FpOk X pins H b ∧ b < s.heap.objs.size) (hn : h'.Ns s.heap.objs.size m) (hs : Heap.SameBut s.heap.objs.size (s.heap.push fo) h') (hgs : gs.bare = true) (hgo : ∀ v, go.data ≠ .cell v) (hfz : ¬ go.isFreed = true) :
    Inv (gCx X B s H (genEnv scope (cloFrom X.env.cells scope.names []) s.heap.objs.size code builtinsNs X.env) fp [(h'.objs.size, go)]) [] (wipe σ (own.map (·.2))) H { s with gens := s.gens.push gs, toks := tk, heap := h'.push go } := by
  have ok := S.blk
  have hsz : h'.objs.size = s.heap.objs.size + 1 := by rw [hs.1, Heap.size_push]
  have kp : ∀ b o, s.heap.get? b = some o → (h'.push go).get? b = some o := fun b o e => Heap.get?_push_of_some _ (hs.extBut b o (Nat.ne_of_lt (Heap.lt_size e)) (Heap.get?_push_of_some _ e))
  have hfree : ∀ y ∈ scope.names, y.2 = .free → ∃ c, X.env.cells.lookup y.1 = some c := fun y hy e => by
    rcases ok.free y hy e with k | k
    · exact I.ok.has _ (.inl k)
    · exact I.ok.has _ (.inr k)
  have cm : ∀ {y c}, (cloFrom X.env.cells scope.names []).lookup y = some c → X.env.cells.lookup y = some c := fun {y c} e => by
    rcases cloFrom_mem (PySem.mem_of_lookup e) with hm | ⟨h1, h2⟩
    · cases hm
    · obtain ⟨c1, hc⟩ := hfree _ h1 rfl
      have hc : X.env.cells.lookup y = some c1 := hc
      have e2 : c = c1 := by
        rw [h2, hc] <;> rfl
      rw [e2]
      exact hc
  have look : ∀ {y}, scope.names.lookup y = some .free → ∃ c, (cloFrom X.env.cells scope.names []).lookup y = some c := fun {y} hl => by
    have hy : (y, NameKind.free) ∈ scope.names := PySem.mem_of_lookup hl
    exact mem_lookup (cloFrom_has (cells := X.env.cells) (acc := []) hy)
  have cellK : ∀ {c : Addr} {v : Option Value}, s.heap.IsCell c v → (h'.push go).IsCell c v := fun {c v} ⟨o, ho, hd⟩ => ⟨_, kp _ _ ho, hd⟩
  have clt : ∀ {y c}, X.env.cells.lookup y = some c → c < s.heap.objs.size := fun {y c} e => by
    obtain ⟨w, z⟩ := I.cell y c e
    exact z.lt
  refine ⟨⟨I.ok.mod, ok.kind, I.ok.glob, rfl, Nat.le_refl _, fun y z c e1 e2 => I.ok.inj y z c (cm e1) (cm e2), fun y hy => ?_, fun y c z _ => (by cases z), fun _ => hB, Around.frames_deeper hf, .inr ⟨rfl, rfl⟩, fun b hb => ⟨?_, fun y c e z => ?_⟩, I.bs, Nat.le_trans I.ok.bsz I.sz,
      fun b o e hb => ?_, fun b hb z => ?_, I.stack, I.stkFree⟩,
    rfl, I.bare.push hgs, Un.kept kp, ⟨m, hn.push go, fun i y v e1 e2 e3 => ?_⟩, fun y c e => ?_, I.hok.fresh (Nat.le_refl _), fun y c e => I.freeC y c (cm e), fun p hp => ?_, I.hok.kept kp, by rw [wipe_length]; exact I.len⟩
  · have hy : scope.names.lookup y = some .cell ∨ scope.names.lookup y = some .free := hy
    rcases hy with hy | hy
    · exact absurd rfl (S.cell _ (PySem.mem_of_lookup hy))
    · exact look hy
  · exact Nat.ne_of_lt (hfp b hb).2
  · exact (hfp b hb).1.2.2.2.2.1 y c (cm e) z
  · rcases (hfp b hb).1.2.2.2.1 with z | z
    · exact I.ok.noex b o e z
    · exact absurd (Nat.lt_of_lt_of_le (Heap.lt_size e) (Nat.le_trans I.ok.bsz z)) (Nat.lt_irrefl _)
  · rcases List.mem_cons.mp (I.stkSub b z) with z | z
    · exact (hfp b hb).1.2.1 z
    · exact (hfp b hb).1.2.2.1 z
  · obtain ⟨e2, hne⟩ := wipe_some e2
    have e3 : Vis scope y := e3
    have no : ∀ {k : NameKind}, (y, k) ∈ scope.names → k = .local ∨ k = .cell → False := fun {k} hm hk => by
      rcases ok.own _ hm hk with e' | e'
      · obtain ⟨p, hp, hpy⟩ := List.mem_map.mp e'
        have e3 := ok.ix p hp
        have : p.1 = y := hpy
        rw [this] at e3
        exact hne (List.mem_map.mpr ⟨p, hp, nodup_ix hN e3 e1⟩)
      · exact e' (List.mem_of_getElem? e1)
    rcases e3 with k | k | k
    · exact (no (PySem.mem_of_lookup k) (.inl rfl)).elim
    · exact (no (PySem.mem_of_lookup k) (.inr rfl)).elim
    · obtain ⟨m, hn, hl⟩ := I.loc
      have hvis : Vis X.env.scope y := (ok.free _ (PySem.mem_of_lookup k) rfl).elim (fun k => .inr (.inl k)) (fun k => .inr (.inr k))
      obtain ⟨w', r, q⟩ := hl i y v e1 e2 hvis
      obtain ⟨c2, h2⟩ := look k
      refine ⟨w', r, .inr ⟨.inr k, c2, h2, ?_⟩⟩
      have c1 := cm h2
      rcases q with ⟨k', _⟩ | ⟨_, c3, e', z⟩
      · have k' : X.env.scope.names.lookup y = some .local := k'
        rcases ok.free _ (PySem.mem_of_lookup k) rfl with k2 | k2 <;> rw [show X.env.scope.names.lookup y = _ from k2] at k' <;> cases k'
      · rw [c1] at e'
        cases e'
        exact cellK z
  · obtain ⟨w', z⟩ := I.cell y c (cm e)
    exact ⟨w', cellK z⟩
  · have e : p = (h'.objs.size, go) := by simpa using hp
    subst e
    refine ⟨Heap.get?_push_size _ (by simpa using hfz), I.hok.fresh (by omega), ?_, fun hb => ?_, hgo⟩
    · show h'.objs.size ≠ s.heap.objs.size
      omega
    · rcases List.mem_cons.mp (I.stkSub _ hb) with z | z
      · have h1 : (X.env.locals : Nat) < s.heap.objs.size := I.lt
        have h2 : h'.objs.size = X.env.locals := z
        rw [← h2, hsz] at h1
        exact absurd h1 (Nat.not_lt.mpr (Nat.le_succ _))
      · exact I.nofs (by omega) z
end
/-! ### the generator's turns -/
def IGx (G : Cx) (σg : L2.St) (fp : List Addr) (tn : Nat → Heap → Prop) (i : Nat) (H : Hp) (s : Shared) : Prop := Inv G [] σg H s ∧ tn i s.heap ∧ ∀ b ∈ fp, H b = none
def RP (G : Cx) (σg : L2.St) (Dn : Hp → Prop) : Nat → Shared → Shared → Prop := fun _ _ s => ∃ H', Inv G [] σg H' s ∧ Dn H'
abbrev YQT := (Hp → Prop) → V → Hp → Prop
def YP (G : Cx) (σg : L2.St) (fp : List Addr) (tn : Nat → Heap → Prop) (YQ : YQT) : Protocol := fun _ _ v s kap =>
  ∃ i y H' N, RelV y v ∧ IGx G σg fp tn i H' s ∧ YQ N y H' ∧ ∀ s'' H'', IGx G σg fp tn i H'' s'' → N H'' → kap (.send .none) s''
/-- what a turn is to do -/
def GTurn (J : It) (g : TG) (tt : TT) (te : TE) (σg : L2.St) (vs : List Nat) (Dn : Hp → Prop) (YQ : YQT) (W : Nat → Nat → Hp → Prop) : Prop := ∀ i m H, W i m H → (J.stop i H ∧ Dn H) ∨ (J.go i H ∧ ∃ N : Hp → Prop, (∀ H', N H' → ∃ m', m' < m ∧ W (i + 1) m' H') ∧
  ∀ x H', J.yld i H x H' → g x σg H' fun σ2 H2 => wipe σ2 vs = σg ∧ tt σ2 H2 fun b H3 => if b = true then te σ2 H3 fun y H4 => YQ N y H4 else N H3)
section
variable {G : Cx} {σg : L2.St} {vs : List Nat} {fp : List Addr} {tn : Nat → Heap → Prop} {B : Around} {elt tg iter : Expr} {ifs : List Expr} {scope : Scope} {pos : Pos} {it : Addr} {J : It} {g : TG} {tt : TT} {te : TE} {Dn : Hp → Prop} {YQ : YQT} {W : Nat → Nat → Hp → Prop}
theorem over_gen (c : Code) (env : Env) (h : c = .compLoop (.GeneratorExp elt [⟨tg, iter, ifs, 0⟩] scope pos) 0 (.ref it) .none env ∨ c = .compStart (.GeneratorExp elt [⟨tg, iter, ifs, 0⟩] scope pos) 0 (.ref it) .none env) : B.over c [] = B.deeper env := by
  rcases h with rfl | rfl
  · first
      | rfl
      | (obtain ⟨hd, d, fr, gs, u⟩ := B; simp [Around.over, Around.deeper, marksOver, frameCount, unitsOf, envsOf, guardsOf, pushEnvs, pushGuards, Code.envs, Code.env?, Code.isFrame, Code.guards, Code.isGuard, Code.weight, Code.frames, Code.isCreation, Code.isCaller, Code.cUnits])
  · first
      | rfl
      | (obtain ⟨hd, d, fr, gs, u⟩ := B; simp [Around.over, Around.deeper, marksOver, frameCount, unitsOf, envsOf, guardsOf, pushEnvs, pushGuards, Code.envs, Code.env?, Code.isFrame, Code.guards, Code.isGuard, Code.weight, Code.frames, Code.isCreation, Code.isCaller, Code.cUnits])
theorem igx_stat {i : Nat} {H : Hp} {s : Shared} (hex : G.ex = fp) (hpn : ∀ p ∈ G.pn, p.1 ∉ fp) (I : Inv G [] σg H s) (hn : ∀ b ∈ fp, H b = none) : ∀ b ∈ fp, FpOk G [] H b := fun b hb =>
  have hb' : b ∈ G.ex := by rw [hex]; exact hb
  ⟨hn b hb, (I.ok.exf b hb').1, I.ok.exfs b hb', .inl hb', fun x c e => (I.ok.exf b hb').2 x c e, fun p hp z => by
    rcases List.mem_append.mp hp with hp | hp
    · exact hpn p hp (by rw [z]; exact hb)
    · cases hp⟩
theorem g_loop (hA : G.A = B.deeper G.env) (hc : G.calm = true) (hxe : G.xe = fun _ _ => False) (hex : G.ex = fp) (hpn : ∀ p ∈ G.pn, p.1 ∉ fp) (hco : G.env.scope.isCoroutine = false) (T : Turn G.prog G.w G.K tg J fp it tn) (hg : PG G tg g) (ht : PTs G ifs tt) (he : PE G elt te)
    (turn : GTurn J g tt te σg vs Dn YQ W) (hσ : ∀ σ2 : L2.St, wipe σ2 vs = σg → σg.length = σ2.length ∧ ∀ (j : Nat) v, σg[j]? = some (some v) → σ2[j]? = some (some v)) :
    ∀ (m n i : Nat) (s₀ s : Shared) (H : Hp), m < n → W i m H → IGx G σg fp tn i H s →
      Seg (model G.prog G.w) B (fun n s₀ r s₁ => r = .ok .next ∧ RP G σg Dn n s₀ s₁) (YP G σg fp tn YQ) n s₀ (.compLoop (.GeneratorExp elt [⟨tg, iter, ifs, 0⟩] scope pos) 0 (.ref it) .none G.env)
        ((model G.prog G.w).den (.compLoop (.GeneratorExp elt [⟨tg, iter, ifs, 0⟩] scope pos) 0 (.ref it) .none G.env)) [] s := by
  have hov : B.over (.compLoop (.GeneratorExp elt [⟨tg, iter, ifs, 0⟩] scope pos) 0 (.ref it) .none G.env) [] = G.A := by rw [hA]; exact over_gen _ _ (.inl rfl)
  intro m
  induction m using Nat.strongRecOn with
  | ind m ih =>
    intro n i s₀ s H hmn hw hI
    obtain ⟨I, st, fr⟩ := hI
    show Seg _ B _ _ _ s₀ _ ((compTurn (.GeneratorExp elt [⟨tg, iter, ifs, 0⟩] scope pos) 0 (.ref it) .none G.env).onRaise (leaving G.env)) [] s
    rw [compTurn_gen, Sem.onRaise_eq_wrap]
    refine seg_bind_wrap (wpAny_standAt ?_)
    rcases turn i m H hw with ⟨stop, qd⟩ | ⟨go, N, hN, step⟩
    · have td := T.done G rfl rfl rfl hc i [] s σg H (fun _ _ => False) I (igx_stat (i := i) hex hpn I fr) st stop
      refine seg_bind_wrap ?_
      rw [hov]
      refine thnF td fun r s1 ⟨hr, I1⟩ => ?_
      subst hr
      exact seg_end (.ok .next) ⟨rfl, H, I1, qd⟩
    · have ti := T.item G rfl rfl rfl hc i [] s σg H (fun _ _ => False) I (igx_stat (i := i) hex hpn I fr) st go
      refine seg_bind_wrap ?_
      rw [hov]
      refine thnF ti fun r s1 ⟨u, hr, h1⟩ => ?_
      subst hr
      refine seg_bind_wrap ?_
      rw [hov]
      refine thnF h1 fun _ s2 ⟨x, H2, I2, r2, y2, st2, fr2⟩ => ?_
      have I2' := I2.pinned (igx_stat (i := i) hex hpn I2 fr2) (T.obj _ _ st2)
      have back : ∀ {σ8 : L2.St} {s' : Shared} {H' : Hp}, wipe σ8 vs = σg → Inv G ([] ++ pinsAt fp s2.heap) σ8 H' s' → IGx G σg fp tn (i + 1) H' s' := fun {σ8 s' H'} hw8 I' => by
        have pin' : ∀ b ∈ fp, ∀ o, s2.heap.get? b = some o → s'.heap.get? b = some o ∧ H' b = none := fun b hb o e =>
          let z := I'.pin (b, o) (List.mem_append_right _ (List.mem_append_right _ (mem_pinsAt hb e)))
          ⟨z.1, z.2.1⟩
        obtain ⟨w1, w2⟩ := hσ σ8 hw8
        refine ⟨(I'.unpinned (pins := [])).weak w1 w2, T.keep _ _ _ st2 fun b hb o e => (pin' b hb o e).1, fun b hb => ?_⟩
        obtain ⟨o, e, _⟩ := T.obj _ _ st2 b hb
        exact (pin' b hb o e).2
      refine seg_bind_wrap ?_
      rw [hov]
      have ag := hg.run _ s2 σg H2 x u _ I2' r2 (step x H2 y2)
      rw [hxe] at ag
      refine thnF ag fun _ s3 ⟨σ3, H3, I3, hw3, q3⟩ => ?_
      refine seg_bind_wrap ?_
      rw [hov]
      have at_ := ht.run _ s3 σ3 H3 _ I3 q3
      rw [hxe] at at_
      refine thnF at_ fun b s4 ⟨H4, I4, q4⟩ => ?_
      cases b with
      | false =>
        simp only [Bool.false_eq_true, if_false] at q4 ⊢
        obtain ⟨m', hm', w'⟩ := hN H4 q4
        exact seg_again rfl (ih m' hm' n (i + 1) s₀ s4 H4 (by omega) w' (back hw3 I4))
      | true =>
        simp only [if_true] at q4 ⊢
        have hy : ∀ v, yieldOut G.env v = yieldValue v := fun v => by simp only [yieldOut, hco, Bool.false_eq_true, if_false]
        simp only [hy]
        rw [Sem.bind_eq_wrap', Sem.bind_eq_wrap', Sem.wrap_wrap, Sem.wrap_wrap]
        refine seg_wrap ?_
        rw [hov]
        have ae := he.run _ s4 σ3 H4 _ I4 q4
        rw [hxe] at ae
        refine thnF ae fun v s5 ⟨y, H5, I5, r5, q5⟩ => ?_
        obtain ⟨n', rfl⟩ : ∃ n', n = n' + 1 := ⟨n - 1, by omega⟩
        refine seg_at (seg_yield rfl rfl rfl ⟨i + 1, y, H5, N, r5, back hw3 I5, q5, fun s'' H'' hI'' nx => ?_⟩)
        obtain ⟨m', hm', w'⟩ := hN H'' nx
        exact seg_again rfl (ih m' hm' n' (i + 1) s'' s'' H'' (by omega) w' hI'')
theorem g_begin (hA : G.A = B.deeper G.env) (hc : G.calm = true) (hxe : G.xe = fun _ _ => False) (hex : G.ex = fp) (hpn : ∀ p ∈ G.pn, p.1 ∉ fp) (hco : G.env.scope.isCoroutine = false) (T : Turn G.prog G.w G.K tg J fp it tn) (hg : PG G tg g) (ht : PTs G ifs tt) (he : PE G elt te)
    (turn : GTurn J g tt te σg vs Dn YQ W) (hσ : ∀ σ2 : L2.St, wipe σ2 vs = σg → σg.length = σ2.length ∧ ∀ (j : Nat) v, σg[j]? = some (some v) → σ2[j]? = some (some v))
    {m n : Nat} {s₀ s : Shared} {H : Hp} (hmn : m < n) (hw : W 0 m H) (hI : IGx G σg fp tn 0 H s) :
      Seg (model G.prog G.w) B (fun n s₀ r s₁ => r = .ok .next ∧ RP G σg Dn n s₀ s₁) (YP G σg fp tn YQ) n s₀ (.compStart (.GeneratorExp elt [⟨tg, iter, ifs, 0⟩] scope pos) 0 (.ref it) .none G.env)
        ((model G.prog G.w).den (.compStart (.GeneratorExp elt [⟨tg, iter, ifs, 0⟩] scope pos) 0 (.ref it) .none G.env)) [] s := by
  have loop := g_loop (iter := iter) (scope := scope) (pos := pos) hA hc hxe hex hpn hco T hg ht he turn hσ m n 0 s₀ s H hmn hw hI
  show Seg _ B _ _ _ s₀ _ ((compStart (.GeneratorExp elt [⟨tg, iter, ifs, 0⟩] scope pos) 0 (.ref it) .none G.env).onRaise (leaving G.env)) [] s
  unfold compStart
  rw [Sem.onRaise_eq_wrap]
  show Seg _ B _ _ _ s₀ _ ((ask >>= _).wrap _ _ _ _) [] s
  refine seg_bind_wrap (wpAny_askSetting ?_)
  split
  · exact seg_again rfl loop
  · first
      | exact seg_bind_wrap (wpAny_rule (seg_bind_wrap (wpAny_standAt (seg_bind_wrap (T.self _ 0 s _ _ hI.2.1 (seg_again rfl loop))))))
      | (refine seg_bind_wrap (wpAny_rule ?_); show Seg _ B _ _ _ s₀ _ ((standAt iter.pos >>= _).wrap _ _ _ _) [] s; exact seg_bind_wrap (wpAny_standAt (seg_bind_wrap (T.self _ 0 s _ _ hI.2.1 (seg_again rfl loop)))))
end
/-! ### one item asked -/
/-- the generator g at a is alive: n turns may come -/
def Alive (G : Cx) (σg : L2.St) (fp : List Addr) (tn : Nat → Heap → Prop) (Dn : Hp → Prop) (YQ : YQT) (B : Around) (g n : Nat) (N : Hp → Prop) (H : Hp) (s : Shared) : Prop :=
  ∃ (i : Nat) (gs : GenState), s.gens[g]? = some gs ∧ IGx G σg fp tn i H s ∧ N H ∧
    ∀ s'' H'', IGx G σg fp tn i H'' s'' → N H'' → gs.Goes (model G.prog G.w) B.in1 (fun n s₀ r s₁ => r = .ok .next ∧ RP G σg Dn n s₀ s₁) (YP G σg fp tn YQ) n (.send .none) s''
theorem inv_gens {X : Cx} {pins : List (Addr × Obj)} {σ : L2.St} {H : Hp} {s : Shared} {g' : Array GenState} (I : Inv X pins σ H s) (h : AllBare g') : Inv X pins σ H { s with gens := g' } :=
  ⟨I.ok, I.os, h, I.base, I.loc, I.cell, I.free, I.freeC, I.pin, I.hok, I.len⟩
theorem bare_set {s : Shared} {g : Nat} {gs : GenState} (x : AllBare s.gens) (h : gs.bare = true) : AllBare (s.setGen g gs).gens := fun y hy => by
  simp only [Shared.setGen] at hy
  obtain ⟨i, hi, e⟩ := Array.mem_iff_getElem.mp hy
  have e2 : (s.gens.setIfInBounds g gs)[i]? = some y := by rw [Array.getElem?_eq_getElem hi, e]
  rw [Array.getElem?_setIfInBounds] at e2
  split at e2
  · split at e2
    · cases e2; exact h
    · cases e2
  · obtain ⟨h1, h2⟩ := Array.getElem?_eq_some_iff.mp e2
    exact h2 ▸ x _ (Array.getElem_mem h1)
theorem IGx.gens {G : Cx} {σg : L2.St} {fp : List Addr} {tn : Nat → Heap → Prop} {i : Nat} {H : Hp} {s : Shared} {g' : Array GenState} (I : IGx G σg fp tn i H s) (h : AllBare g') : IGx G σg fp tn i H { s with gens := g' } := ⟨inv_gens I.1 h, I.2⟩
section
variable {G : Cx} {σg : L2.St} {fp : List Addr} {tn : Nat → Heap → Prop} {B : Around} {Dn : Hp → Prop} {YQ : YQT} {a : Addr} {g n : Nat} {N : Hp → Prop} {H : Hp} {s : Shared}
/-- next(g) -/
theorem g_next {Q : Option Value → Shared → Prop} {E : Value → Shared → Prop} (hB : B.handled = none) (hd : B.depth < recursionLimit) (hgen : ∀ H s, Inv G [] σg H s → s.heap.IsGen a g) (A : Alive G σg fp tn Dn YQ B g n N H s)
    (hend : ∀ H' s', Inv G [] σg H' s' → Dn H' → Q none s')
    (hitem : ∀ v y N' H' s', RelV y v → YQ N' y H' → Inv G [] σg H' s' → (∀ H'' s'', N' H'' → (∀ i, IGx G σg fp tn i H' s' → IGx G σg fp tn i H'' s'') → s''.gens = s'.gens → ∃ n', n = n' + 1 ∧ Alive G σg fp tn Dn YQ B g n' N' H'' s'') → Q (some v) s') :
    wpAny (model G.prog G.w) B (pyNext (.ref a)) Q E s := by
  obtain ⟨i, gs, hgs, hI, hN, hgo⟩ := A
  have I := hI.1
  refine GenW.wpAny_gsz (n := s.gens.size) (Nat.le_refl _) ?_
  have hlt : g < s.gens.size := by
    rcases Nat.lt_or_ge g s.gens.size with h' | h'
    · exact h'
    · rw [Array.getElem?_eq_none h'] at hgs; cases hgs
  refine wpAny_pyNext_genexpQ (P := fun n s₀ s₁ => RP G σg Dn n s₀ s₁) hB I.nolimit hd (hgen H s I) hgs (hgo _ H (hI.gens (bare_set I.bare rfl)) hN) (fun v s₁ gs' hb hy hsz => ?_) (fun s₁ hp h' hk _ => ?_)
  · obtain ⟨i', y, H', N', ry, hI', hq, hkap⟩ := hy
    refine hitem v y N' H' _ ry hq (inv_gens hI'.1 (bare_set hI'.1.bare hb)) fun H'' s'' hN' hmv hg' => ?_
    have hsz' : g < s₁.gens.size := by
      have : (s₁.setGen g gs').gens.size = s₁.gens.size := by simp [Shared.setGen]
      omega
    have hI'' := hmv i' (hI'.gens (bare_set hI'.1.bare hb))
    cases n with
    | zero => exact (hkap _ _ hI'' hN').elim
    | succ n' =>
      refine ⟨n', rfl, i', gs', ?_, hI'', hN', fun s3 H3 h3 n3 => hkap s3 H3 h3 n3⟩
      rw [hg']
      simp [Shared.setGen, hsz']
  · obtain ⟨H', I', qd⟩ := hp
    refine hend H' _ ?_ qd
    exact (inv_gens I' (bare_set (gs := .finished) I'.bare rfl)).kept (t' := s₁.toks) (h' := h') hk
/-- truth of a value, the state as it was -/
theorem truthy_tok {X : Cx} {pins : List (Addr × Obj)} {σ : L2.St} {H : Hp} {s : Shared} {A : Around} {E : Value → Shared → Prop} {y : V} {v : Value} {k : Bool} {Q : Bool → Shared → Prop} (I : Inv X pins σ H s) (r : RelV y v) (e : TruV X.K y H k) (q : ∀ t, Q k { s with toks := t }) :
    wpAny (model X.prog X.w) A (truthy v) Q E s := by
  have hl := line63
  have hs : sizeLine = 16777216 := sizeLine_eq
  cases y with
  | non => cases r; obtain rfl : k = false := e; exact truthy_none (q s.toks)
  | bl b => cases r; obtain rfl : k = b := e; exact wpAny_truthy_bool (q s.toks)
  | int i => obtain ⟨t, rfl⟩ := r; obtain rfl : k = (i != 0) := e; exact PySem.P.truthy_int (q s.toks)
  | str z =>
    obtain ⟨t, rfl⟩ := r
    obtain ⟨hy, rfl⟩ : z.length ≤ sizeLine ∧ k = ((z.length : Int) != 0) := e
    exact PySem.P.truthy_str (by omega) (q _)
  | ref p =>
    cases r
    have e' : (∃ xs, SqL X.K H p xs ∧ k = !xs.isEmpty) ∨ (∃ xs, SqT X.K H p xs ∧ k = !xs.isEmpty) ∨ ∃ kvs, H p = some (.dK kvs) ∧ k = !kvs.isEmpty := e
    rcases e' with ⟨xs, hx, rfl⟩ | ⟨xs, hx, rfl⟩ | ⟨kvs, hx, rfl⟩
    · obtain ⟨its, r, pl, hz⟩ := I.list hx
      have hlen := r.length
      exact wpAny_truthy_list pl.isList (by simp only [List.size_toArray]; omega) (by rw [isEmpty_of r]; exact q _)
    · obtain ⟨its, r, pl, hz⟩ := I.tuple hx
      have hlen := r.length
      exact truthy_tuple pl (by simp only [List.size_toArray]; omega) (by rw [isEmpty_of r]; exact q _)
    · obtain ⟨hz, hS, vs, r, m⟩ : kvs.length ≤ sizeLine ∧ (p == sysModules) = false ∧ ∃ vs, KV kvs vs ∧ s.heap.DictOf (mixKind X.prog X.w) p vs := I.hok p _ hx
      have hlen : kvs.length = vs.length := Paired.length r
      exact wpAny_truthy_dict hS m (by omega) (by rw [isEmpty_kv r]; exact q _)
  | byt z =>
    obtain ⟨t, rfl⟩ := r
    obtain ⟨hy, rfl⟩ : z.size ≤ sizeLine ∧ k = ((z.size : Int) != 0) := e
    exact PySem.W.truthy_bytes (by omega) (q _)
  | _ => exact (show False from e).elim
/-- any, all: what a turn's value does -/
def yAny (K : PySem.W.Frag) (want : Bool) (Qt : Hp → Prop) : YQT := fun N y H => ∃ k, TruV K y H k ∧ if k = want then Qt H else N H
theorem any_loop {R : Result → Shared → Prop} {Qt : Hp → Prop} (hB : B.handled = none) (hd : B.depth < recursionLimit) (hgen : ∀ H s, Inv G [] σg H s → s.heap.IsGen a g)
    (h0 : ∀ H' s', Inv G [] σg H' s' → Dn H' → R (.ok (.ret (.bool false))) s') (h1 : ∀ H' s', Inv G [] σg H' s' → Qt H' → R (.ok (.ret (.bool true))) s') :
    ∀ (n : Nat) (N : Hp → Prop) (H : Hp) (s : Shared), Alive G σg fp tn Dn (yAny G.K true Qt) B.in1 g n N H s → codeAny (model G.prog G.w) B (.builtin "any.loop" ⟨[.ref a], []⟩) R s := by
  intro n
  induction n with
  | zero =>
    intro N H s A
    refine codeAny_builtin F.entry_any_loop ?_
    rw [Around.under_plainId F.plain_any_loop _]
    show wpAny _ B.in1 (pyNext (.ref a) >>= _) _ _ s
    refine wpAny_bind (g_next hB hd hgen A (fun H' s' I' q => wpAny_bind (wpAny_rule (wpAny_pure (h0 H' s' I' q)))) fun v y N' H' s' ry hq I' hc => ?_)
    obtain ⟨k, tv, hq⟩ := hq
    refine wpAny_bind (wpAny_holding (truthy_tok I' ry tv fun t => wpAny_bind (wpAny_letGo ?_)))
    cases k with
    | true => exact wpAny_bind (wpAny_rule (wpAny_pure (h1 H' _ (I'.tok t) hq)))
    | false =>
      obtain ⟨n', e, _⟩ := hc H' { s' with toks := t } hq (fun i h => ⟨h.1.tok t, h.2⟩) rfl
      cases e
  | succ n ih =>
    intro N H s A
    refine codeAny_builtin F.entry_any_loop ?_
    rw [Around.under_plainId F.plain_any_loop _]
    show wpAny _ B.in1 (pyNext (.ref a) >>= _) _ _ s
    refine wpAny_bind (g_next hB hd hgen A (fun H' s' I' q => wpAny_bind (wpAny_rule (wpAny_pure (h0 H' s' I' q)))) fun v y N' H' s' ry hq I' hc => ?_)
    obtain ⟨k, tv, hq⟩ := hq
    refine wpAny_bind (wpAny_holding (truthy_tok I' ry tv fun t => wpAny_bind (wpAny_letGo ?_)))
    cases k with
    | true => exact wpAny_bind (wpAny_rule (wpAny_pure (h1 H' _ (I'.tok t) hq)))
    | false =>
      obtain ⟨n', e, A'⟩ := hc H' { s' with toks := t } hq (fun i h => ⟨h.1.tok t, h.2⟩) rfl
      cases e
      simp only [Bool.false_eq_true, if_false]
      exact wpAny_pure ⟨plainId_quiet F.plain_any_loop _, ih _ _ _ A'⟩
theorem all_loop {R : Result → Shared → Prop} {Qt : Hp → Prop} (hB : B.handled = none) (hd : B.depth < recursionLimit) (hgen : ∀ H s, Inv G [] σg H s → s.heap.IsGen a g)
    (h0 : ∀ H' s', Inv G [] σg H' s' → Dn H' → R (.ok (.ret (.bool true))) s') (h1 : ∀ H' s', Inv G [] σg H' s' → Qt H' → R (.ok (.ret (.bool false))) s') :
    ∀ (n : Nat) (N : Hp → Prop) (H : Hp) (s : Shared), Alive G σg fp tn Dn (yAny G.K false Qt) B.in1 g n N H s → codeAny (model G.prog G.w) B (.builtin "all.loop" ⟨[.ref a], []⟩) R s := by
  intro n
  induction n with
  | zero =>
    intro N H s A
    refine codeAny_builtin F.entry_all_loop ?_
    rw [Around.under_plainId F.plain_all_loop _]
    show wpAny _ B.in1 (pyNext (.ref a) >>= _) _ _ s
    refine wpAny_bind (g_next hB hd hgen A (fun H' s' I' q => wpAny_bind (wpAny_rule (wpAny_pure (h0 H' s' I' q)))) fun v y N' H' s' ry hq I' hc => ?_)
    obtain ⟨k, tv, hq⟩ := hq
    refine wpAny_bind (wpAny_holding (truthy_tok I' ry tv fun t => wpAny_bind (wpAny_letGo ?_)))
    cases k with
    | false =>
      simp only [Bool.false_eq_true, if_false]
      exact wpAny_bind (wpAny_rule (wpAny_pure (h1 H' _ (I'.tok t) hq)))
    | true =>
      obtain ⟨n', e, _⟩ := hc H' { s' with toks := t } hq (fun i h => ⟨h.1.tok t, h.2⟩) rfl
      cases e
  | succ n ih =>
    intro N H s A
    refine codeAny_builtin F.entry_all_loop ?_
    rw [Around.under_plainId F.plain_all_loop _]
    show wpAny _ B.in1 (pyNext (.ref a) >>= _) _ _ s
    refine wpAny_bind (g_next hB hd hgen A (fun H' s' I' q => wpAny_bind (wpAny_rule (wpAny_pure (h0 H' s' I' q)))) fun v y N' H' s' ry hq I' hc => ?_)
    obtain ⟨k, tv, hq⟩ := hq
    refine wpAny_bind (wpAny_holding (truthy_tok I' ry tv fun t => wpAny_bind (wpAny_letGo ?_)))
    cases k with
    | false =>
      simp only [Bool.false_eq_true, if_false]
      exact wpAny_bind (wpAny_rule (wpAny_pure (h1 H' _ (I'.tok t) hq)))
    | true =>
      obtain ⟨n', e, A'⟩ := hc H' { s' with toks := t } hq (fun i h => ⟨h.1.tok t, h.2⟩) rfl
      cases e
      simp only [if_true]
      exact wpAny_pure ⟨plainId_quiet F.plain_all_loop _, ih _ _ _ A'⟩
end
end Sh
set_option Elab.async false
set_option linter.all false
set_option maxRecDepth 100000
set_option maxHeartbeats 1000000
namespace Sh
open PySem PySem.Spec PyProof.Rows L2
/-- the running def's code object and its table, for generator expressions -/
structure GTab (X : Cx) (T : List (Addr × Str)) (c P : Addr) : Prop where
  tb : LamX.TabB X.base X.mg c P
  code : X.env.code = .ref c
  mem : (P, X.env.qual ++ "<genexpr>") ∈ T
  uniq : ∀ p ∈ T, p.1 = P → p.2 = X.env.qual ++ "<genexpr>"
section
variable {X : Cx} {pins : List (Addr × Obj)} {σ : L2.St} {H : Hp} {s : Shared}
/-- what a step does to the tables: each stands, and tells code objects of its one name -/
structure TabStep (X : Cx) (pins : List (Addr × Obj)) (σ : L2.St) (T : List (Addr × Str)) (P : Addr) (H H1 : Hp) (s s' : Shared) : Prop where
  inv : L2.Inv X pins σ H1 s'
  ext : LamX.ExtN H H1
  tabs : LamX.Tabs T H1
  keep : ∀ b o, b ≠ P → s.heap.get? b = some o → s'.heap.get? b = some o
  gone : ∀ b, b < s.heap.objs.size → H b = none → H1 b = none
  tbl : ∀ b ps, H b = some (.tbl ps) → ∃ qs, H1 b = some (.tbl qs)
  size : s.heap.objs.size ≤ s'.heap.objs.size
theorem TabStep.same {T : List (Addr × Str)} {P : Addr} (I : L2.Inv X pins σ H s) (hT : LamX.Tabs T H) : TabStep X pins σ T P H H s s :=
  ⟨I, LamX.ExtN.refl H, hT, fun _ _ _ e => e, fun _ _ n => n, fun _ ps e => ⟨ps, e⟩, Nat.le_refl _⟩
/-- the table at P gets the code object at c', new -/
theorem TabStep.grow {T : List (Addr × Str)} {P c' : Addr} {q : Str} {ps : Array Value} {pos : Pos} {h' : Heap} {tk : Nat} (I : L2.Inv X pins σ H s) (hT : LamX.Tabs T H) (hm : (P, q) ∈ T) (hu : ∀ p ∈ T, p.1 = P → p.2 = q) (hP : H P = some (.tbl ps))
    (hx : Heap.ExtBut P s.heap h') (hP' : h'.get? P = some { cls := .none, data := .fields (ps ++ #[rawInt pos.line, rawInt pos.col, .ref c']) }) (hge : s.heap.objs.size ≤ c') (hlt : c' < h'.objs.size) (ho : ∃ (oc : Obj) (vs : Array Value) (t : Tok), h'.get? c' = some oc ∧ oc.data = .fields vs ∧ vs[1]? = some (.str q t)) :
    ∃ H1, TabStep X pins σ T P H H1 s { s with heap := h', toks := tk } ∧ H1 c' = some (LamX.CodeO c' q) := by
  have nC : H c' = none := I.hok.fresh hge
  have at2 : ∀ {b : Addr}, b ≠ c' → b ≠ P → upd (upd H P (.tbl (ps ++ #[rawInt pos.line, rawInt pos.col, .ref c']))) c' (LamX.CodeO c' q) b = H b := fun h1 h2 => by rw [upd_ne h1, upd_ne h2]
  have neP : ∀ {b : Addr} {o : HO}, H b = some o → (∀ ps, o ≠ .tbl ps) → b ≠ P := fun {b o} e n z => n ps (Option.some.inj (e.symm.trans (by rw [z]; exact hP)))
  have hE : LamX.ExtN H (upd (upd H P (.tbl (ps ++ #[rawInt pos.line, rawInt pos.col, .ref c']))) c' (LamX.CodeO c' q)) := fun b o e n => by rw [at2 (ne_of_none e nC) (neP e n)]; exact e
  have eL : (ps ++ #[rawInt pos.line, rawInt pos.col, .ref c']).toList = ps.toList ++ [rawInt pos.line, rawInt pos.col, .ref c'] := by simp
  refine ⟨_, ⟨LamX.inv_table (q := q) (t' := tk) (h' := h') I hP (fun b o hb e => hx b o hb e) hP' hge ho, hE, fun p hp => ?_, fun b o hb e => hx b o hb e, fun b hb hn => ?_, fun b qs e => ?_, Nat.le_trans hge (Nat.le_of_lt hlt)⟩, upd_same⟩
  · obtain ⟨ps', a1, a2, a3⟩ := hT p hp
    have old : ∀ p' cv, codeAmong p' ps'.toList = some cv → ∃ c, cv = .ref c ∧ upd (upd H P (.tbl (ps ++ #[rawInt pos.line, rawInt pos.col, .ref c']))) c' (LamX.CodeO c' q) c = some (LamX.CodeO c p.2) := fun p' cv hcv =>
      let ⟨c0, e1, e2⟩ := a3 p' cv hcv
      ⟨c0, e1, hE _ _ e2 LamX.codeO_ne⟩
    by_cases hb : p.1 = P
    · have e2 := hu p hp hb
      rw [hb, hP] at a1; cases a1
      rw [e2] at old
      rw [e2, hb]
      refine ⟨_, by rw [upd_ne (ne_of_none hP nC), upd_same], by rw [eL]; exact PySem.TriplesOk_snoc _ _ _ _ a2, fun p' cv hcv => ?_⟩
      rw [eL] at hcv
      exact (LamX.among_app _ a2 hcv).elim (old p' cv) fun z => ⟨c', z, upd_same⟩
    · exact ⟨ps', by rw [at2 (ne_of_none a1 nC) hb]; exact a1, a2, old⟩
  · rw [at2 (Nat.ne_of_lt (Nat.lt_of_lt_of_le hb hge)) (fun z => by rw [z, hP] at hn; cases hn)]
    exact hn
  · by_cases hb : b = P
    · exact ⟨_, by rw [hb, upd_ne (ne_of_none hP nC), upd_same]⟩
    · exact ⟨qs, by rw [at2 (ne_of_none e nC) hb]; exact e⟩
/-- the code object of a generator expression: new, or found in the table -/
theorem g_code {T : List (Addr × Str)} {c P : Addr} {scope : Scope} {pos : Pos} {E : Value → Shared → Prop} {Q : Value → Shared → Prop} (I : L2.Inv X pins σ H s) (gt : GTab X T c P) (hT : LamX.Tabs T H)
    (h : ∀ (cv : Value) (H1 : Hp) (s' : Shared), TabStep X pins σ T P H H1 s s' → H P ≠ none → Q cv s') :
    wpAny (model X.prog X.w) X.A (genexprCode X.env pos (X.env.qual ++ "<genexpr>") scope) Q E s := by
  obtain ⟨ps, hP, ht, ha⟩ := hT _ gt.mem
  have hP : H P = some (.tbl ps) := hP
  have hP' : s.heap.get? P = some { cls := .none, data := .fields ps } := I.hok P _ hP
  have cd : PySem.W.CodeHd s.heap c P := gt.tb.code.keeps I.bk
  have hPn : H P ≠ none := by rw [hP]; exact fun z => by cases z
  cases hc : codeAmong pos ps.toList with
  | none =>
    refine wpAny_genexprCodeX gt.code (cd.code hP' ht) (cd.tab hP') hc fun c' h' tk hx hge hlt _ hrec htab' _ => ?_
    obtain ⟨c2, oc, vs, t, e2, hoc, hd, hv⟩ := hrec
    cases e2
    obtain ⟨H1, st, _⟩ := TabStep.grow (tk := tk) I hT gt.mem gt.uniq hP hx htab'.2 hge hlt ⟨oc, vs, t, hoc, hd, hv⟩
    exact h (.ref c') H1 _ st hPn
  | some cv => exact wpAny_genexprCode_hit gt.code (cd.code hP' ht) hc (h cv H s (.same I hT) hPn)
/-- a family of contexts: any generator expression of this scope -/
def GFam (X : Cx) (scope : Scope) (p : Cx → Prop) : Prop := ∀ (s : Shared) (H : Hp) (C : Addr) (cl : List (Str × Addr)) (code : Value) (fp : List Addr) (pn : List (Addr × Obj)), p (gCx X X.A.in1.in1 s H (genEnv scope cl C code builtinsNs X.env) fp pn)
/-- made, not begun -/
structure GMade (X : Cx) (pins : List (Addr × Obj)) (σ : L2.St) (Dn : Hp → Prop) (YQ : YQT) (a : Addr) (s : Shared) : Prop where
  ex : ∃ (G : Cx) (σg : L2.St) (fp : List Addr) (tn : Nat → Heap → Prop) (g n : Nat) (N : Hp → Prop) (H : Hp), G.K = X.K ∧ G.prog = X.prog ∧ G.w = X.w ∧ (∀ H s, Inv G [] σg H s → s.heap.IsGen a g) ∧ (∀ H s, Inv G [] σg H s → Inv X pins σ H s) ∧ Alive G σg fp tn Dn YQ X.A.in1 g n N H s
theorem gen_make {k : Nat} {T : List (Addr × Str)} {c P : Addr} {elt tg iter : Expr} {ifs : List Expr} {scope : Scope} {own : List (Str × Nat)} {gpos : Pos} {wi : TI} {g : TG} {tt : TT} {te : TE} {Dn : Hp → Prop} {YQ : YQT} {Q' : Value → Shared → Prop}
    (hr : Room k X.A) (hc : X.calm = true) (hN : X.N.Nodup) (S : GSc X.N X.env.scope scope own) (gt : GTab X T c P) (hi : PI X tg iter wi) (hg : GFam X scope fun G => PG G tg g) (ht : GFam X scope fun G => PTs G ifs tt) (he : GFam X scope fun G => PE G elt te)
    (hs : ∀ v, genFold iter X.env v = pure v) (I : Inv X pins σ H s)
    (h : wi σ H fun J H1 => LamX.Tabs T H1 ∧ ∀ H2, LamX.ExtN H1 H2 → LamX.Tabs T H2 → (∀ b ps, H1 b = some (.tbl ps) → ∃ qs, H2 b = some (.tbl qs)) → ∃ W : Nat → Nat → Hp → Prop, (∃ m, W 0 m H2) ∧ GTurn J g tt te (wipe σ (own.map (·.2))) (own.map (·.2)) Dn YQ W)
    (hQ : ∀ a s', GMade X pins σ Dn YQ a s' → Q' (.ref a) s') :
    wpAny (model X.prog X.w) X.A (eval (.GeneratorExp elt [⟨tg, iter, ifs, 0⟩] scope gpos) X.env) Q' X.xe s := by
  have hfree : ∀ y ∈ scope.names, y.2 = .free → ∃ c, X.env.cells.lookup y.1 = some c := fun y hy e => by
    rcases S.blk.free y hy e with k | k
    · exact I.ok.has _ (.inl k)
    · exact I.ok.has _ (.inr k)
  refine wpAny_GeneratorExp_make S.co (closure_ok hfree) S.cell S.dot S.blk.kind hr.depth (thn (hi.run pins s σ H _ I h) fun xv s1 h1 => thn h1 fun itv s2 h2 => ?_) hs
  obtain ⟨it, fp, tn, J, H2, e, I2, T2, st2, f2, hT, q⟩ := h2
  subst e
  refine ⟨I2.nolimit, ?_⟩
  refine g_code I2 gt hT fun code H3 s3 st hP => ?_
  obtain ⟨I3, hE, hT3, hk, hnn, htk, hsz⟩ := st
  obtain ⟨bm, ob, e1, e2, e3, e4, e5, e6, e7, e8⟩ := gt.tb.bm
  refine wpAny_builtinsFor (m := X.mg) (by rw [I3.ok.glob]; exact I3.mod.glob.keeps I3.bk) e1 e2 (I3.bk _ _ e5) e6 e7 e8 ?_
  intro h' hn' hs'
  have ltf : ∀ b ∈ fp, b < s2.heap.objs.size := fun b hb => by
    obtain ⟨o, e, _⟩ := T2.obj _ _ st2 b hb
    exact Heap.lt_size e
  have neP : ∀ b ∈ fp, b ≠ P := fun b hb z => hP (by rw [← z]; exact (f2 b hb).1)
  have f3 : ∀ b ∈ fp, FpOk X pins H3 b ∧ b < s3.heap.objs.size := fun b hb => ⟨⟨hnn b (ltf b hb) (f2 b hb).1, (f2 b hb).2⟩, Nat.lt_of_lt_of_le (ltf b hb) hsz⟩
  have kp : ∀ b o, s3.heap.get? b = some o → ∀ go : Obj, (h'.push go).get? b = some o := fun b o e go => Heap.get?_push_of_some _ (hs'.extBut b o (Nat.ne_of_lt (Heap.lt_size e)) (Heap.get?_push_of_some _ e))
  have IG := g_start (gs := .fresh (.compStart (.GeneratorExp elt [⟨tg, iter, ifs, 0⟩] scope gpos) 0 (.ref it) .none (genEnv scope (cloFrom X.env.cells scope.names []) s3.heap.objs.size code builtinsNs X.env))) (tk := s3.toks + 1 + 1 + 1) (B := X.A.in1.in1)
    (go := { cls := .type "generator", data := .fields #[.int s3.gens.size 0, .str "<genexpr>" (s3.toks + 1), .str (X.env.qual ++ "<genexpr>") (s3.toks + 1 + 1)] }) (code := code) I3 S hN hr.hd I3.ok.frames f3 hn' hs' rfl (fun v z => by cases z) (by intro z; cases z)
  have hpn : ∀ p ∈ [(h'.objs.size, ({ cls := .type "generator", data := .fields #[.int s3.gens.size 0, .str "<genexpr>" (s3.toks + 1), .str (X.env.qual ++ "<genexpr>") (s3.toks + 1 + 1)] } : Obj))], p.1 ∉ fp := fun p hp hb => by
    rw [List.mem_singleton.mp hp] at hb
    have h1 := (f3 _ hb).2
    rw [show h'.objs.size = s3.heap.objs.size + 1 by rw [hs'.1, Heap.size_push]] at h1
    exact absurd h1 (Nat.not_lt.mpr (Nat.le_succ _))
  obtain ⟨W, ⟨m, hw⟩, turn⟩ := q H3 hE hT3 htk
  refine hQ _ _ ⟨⟨gCx X X.A.in1.in1 s3 H3 (genEnv scope (cloFrom X.env.cells scope.names []) s3.heap.objs.size code builtinsNs X.env) fp [(h'.objs.size, { cls := .type "generator", data := .fields #[.int s3.gens.size 0, .str "<genexpr>" (s3.toks + 1), .str (X.env.qual ++ "<genexpr>") (s3.toks + 1 + 1)] })], wipe σ (own.map (·.2)), fp, tn, s3.gens.size, m + 1, fun H => ∃ m', m' < m + 1 ∧ W 0 m' H, H3, rfl, rfl, rfl, fun H s I => ?_, fun H s I => ?_, 0, _, Array.getElem?_push_size .., ⟨IG, ?_, fun b hb => (f3 b hb).1.1⟩, ⟨m, Nat.lt_succ_self m, hw⟩, fun s'' H'' hI hN => ?_⟩⟩
  · exact ⟨_, _, _, (I.pin _ (List.mem_append_left _ (List.mem_singleton.mpr rfl))).1, rfl, rfl, rfl⟩
  · exact I3.call' (ch := fp) I.os I.base I.hok I.bare fun b hb => ⟨(f3 b hb).1.2.2.2.1, (f3 b hb).1.2.1, (f3 b hb).1.2.2.2.2.1, (f3 b hb).1.2.2.2.2.2⟩
  · exact T2.keep _ _ _ st2 fun b hb o e => kp b o (hk b o (neP b hb) e) _
  · obtain ⟨m', hm', hw'⟩ := hN
    refine ⟨rfl, ?_⟩
    exact g_begin (G := gCx X X.A.in1.in1 s3 H3 (genEnv scope (cloFrom X.env.cells scope.names []) s3.heap.objs.size code builtinsNs X.env) fp _) (g := g) (tt := tt) (te := te) rfl rfl rfl rfl hpn S.co T2 (hg _ _ _ _ _ _ _) (ht _ _ _ _ _ _ _) (he _ _ _ _ _ _ _) turn
      (fun σ2 h2 => by
        refine ⟨by rw [← h2, wipe_length], fun j v e => ?_⟩
        rw [← h2] at e
        exact (wipe_some e).1) hm' hw' hI
/-- what is asked of a generator expression's walk -/
def tGn (T : List (Addr × Str)) (wi : TI) (g : TG) (tt : TT) (te : TE) (vs : List Nat) (Dn : Hp → Prop) (YQ : YQT) : L2.St → Hp → Prop := fun σ H => wi σ H fun J H1 => LamX.Tabs T H1 ∧ ∀ H2, LamX.ExtN H1 H2 → LamX.Tabs T H2 → (∀ b ps, H1 b = some (.tbl ps) → ∃ qs, H2 b = some (.tbl qs)) →
  ∃ W : Nat → Nat → Hp → Prop, (∃ m, W 0 m H2) ∧ GTurn J g tt te (wipe σ vs) vs Dn YQ W
section
variable {k : Nat} {T : List (Addr × Str)} {c P : Addr} {elt tg iter : Expr} {ifs : List Expr} {scope : Scope} {own : List (Str × Nat)} {gpos p pos : Pos} {wi : TI} {g : TG} {tt : TT} {te : TE}
/-- a built-in of one argument, a generator expression -/
theorem pe_gen1 {x : Str} {id : String} {Dn : VK → Hp → Prop} {YQ : VK → YQT} (hr : Room k X.A) (hc : X.calm = true) (hN : X.N.Nodup) (S : GSc X.N X.env.scope scope own) (gt : GTab X T c P) (hi : PI X tg iter wi) (hg : GFam X scope fun G => PG G tg g) (ht : GFam X scope fun G => PTs G ifs tt) (he : GFam X scope fun G => PE G elt te)
    (hs : ∀ v, genFold iter X.env v = pure v) (hgl : Gl X x) (hm : X.mg x = none) (hb : bootBuiltins x = some (.builtin id)) (hn : x ≠ "__name__")
    (hcall : ∀ pins σ Q a s', GMade X pins σ (Dn Q) (YQ Q) a s' → wpAny (model X.prog X.w) X.A (call (.builtin id) [.ref a]) (EP X pins σ Q) X.xe s')
    (hst : starEach [.GeneratorExp elt [⟨tg, iter, ifs, 0⟩] scope gpos] X.env = (false, eval (.GeneratorExp elt [⟨tg, iter, ifs, 0⟩] scope gpos) X.env) :: starEach [] X.env := by rfl) (hdb : (x == ("__debug__" : Str)) = false := by decide) :
    PE X (.Call (.Name x p) [.GeneratorExp elt [⟨tg, iter, ifs, 0⟩] scope gpos] [] pos) (fun σ H Q => tGn T wi g tt te (own.map (·.2)) (Dn Q) (YQ Q) σ H) := by
  refine ⟨fun pins s σ H Q I h => ?_⟩
  refine wpAny_Call_Name_kw (ld_blt I hgl hm hb ?_ hn hdb)
  refine PyProof.Rows.callWith_builtin1 ?_ hst (by rfl)
  rw [hst]
  show wpAny _ _ (spliced ((false, eval (.GeneratorExp elt [⟨tg, iter, ifs, 0⟩] scope gpos) X.env) :: backTo pos (starEach [] X.env))) _ _ s
  exact Calls.spliced_cons (gen_make hr hc hN S gt hi hg ht he hs I h fun a s' hM => Calls.spliced_nil (hcall pins σ Q a s' hM))
theorem call_anyG {pins : List (Addr × Obj)} {σ : L2.St} {Q : VK} {a : Addr} {s' : Shared} (hr : Room k X.A) (hM : GMade X pins σ (fun H => Q (.bl false) H) (yAny X.K true fun H => Q (.bl true) H) a s') : wpAny (model X.prog X.w) X.A (call (.builtin "any") [.ref a]) (EP X pins σ Q) X.xe s' := by
  obtain ⟨G, σg, fp, tn, g, n, N, H, eK, eP, eW, hgen, hback, A⟩ := hM
  have hI : ∃ H s, Inv G [] σg H s ∧ s' = s := let ⟨_, _, _, hI, _⟩ := A; ⟨_, _, hI.1, rfl⟩
  refine call_function_tree F.kind_any F.plain_any F.entry_any (F.args_any1 _) ?_
  unfold Builtin.«any»
  refine wpAny_bind (m := oneArg "any" _) (wpAny_pure ?_)
  refine wpAny_bind (wpAny_pyIter_gen (let ⟨_, _, _, hI, _⟩ := A; hgen _ _ hI.1) ?_)
  refine wpAny_pure ⟨plainId_quiet F.plain_any_loop _, ?_⟩
  rw [← eK, ] at A
  rw [← eP, ← eW]
  exact any_loop (Qt := fun H => Q (.bl true) H) hr.hd hr.depth hgen (fun H' s' I' q => ⟨.bl false, H', hback H' s' I', rfl, q⟩) (fun H' s' I' q => ⟨.bl true, H', hback H' s' I', rfl, q⟩) n N H s' A
theorem call_allG {pins : List (Addr × Obj)} {σ : L2.St} {Q : VK} {a : Addr} {s' : Shared} (hr : Room k X.A) (hM : GMade X pins σ (fun H => Q (.bl true) H) (yAny X.K false fun H => Q (.bl false) H) a s') : wpAny (model X.prog X.w) X.A (call (.builtin "all") [.ref a]) (EP X pins σ Q) X.xe s' := by
  obtain ⟨G, σg, fp, tn, g, n, N, H, eK, eP, eW, hgen, hback, A⟩ := hM
  refine call_function_tree F.kind_all F.plain_all F.entry_all (F.args_all1 _) ?_
  unfold Builtin.«all»
  refine wpAny_bind (m := oneArg "all" _) (wpAny_pure ?_)
  refine wpAny_bind (wpAny_pyIter_gen (let ⟨_, _, _, hI, _⟩ := A; hgen _ _ hI.1) ?_)
  refine wpAny_pure ⟨plainId_quiet F.plain_all_loop _, ?_⟩
  rw [← eK, ] at A
  rw [← eP, ← eW]
  exact all_loop (Qt := fun H => Q (.bl false) H) hr.hd hr.depth hgen (fun H' s' I' q => ⟨.bl true, H', hback H' s' I', rfl, q⟩) (fun H' s' I' q => ⟨.bl false, H', hback H' s' I', rfl, q⟩) n N H s' A
end
end
end Sh
set_option Elab.async false
set_option linter.all false
set_option maxRecDepth 100000
set_option maxHeartbeats 1000000
namespace Sh
open PySem PySem.Spec PyProof.Rows L2
def wipeS (S : Env') : List Nat → Env'
  | [] => S
  | v :: vs => (wipeS S vs).set v .none
theorem wipeS_length (S : Env') : ∀ vs : List Nat, (wipeS S vs).length = S.length
  | [] => rfl
  | v :: vs => by unfold wipeS; rw [List.length_set, wipeS_length S vs]
theorem wipe_get (σ : L2.St) (j : Nat) : ∀ vs : List Nat, (wipe σ vs)[j]? = if j ∈ vs ∧ j < σ.length then some none else σ[j]?
  | [] => by simp [wipe]
  | v :: vs => by
    unfold wipe
    rw [List.getElem?_set, wipe_length, wipe_get σ j vs]
    by_cases h : v = j
    · subst h
      by_cases h2 : v < σ.length
      · simp [h2]
      · rw [List.getElem?_eq_none (by omega)]
        simp [h2]
    · have : ¬ j = v := fun e => h e.symm
      simp [h, this]
theorem wipe_same {σ σ' : L2.St} {vs : List Nat} (hl : σ'.length = (wipe σ vs).length) (h : ∀ k, k ∉ vs → σ'[k]? = (wipe σ vs)[k]?) : wipe σ' vs = wipe σ vs := by
  rw [wipe_length] at hl
  refine List.ext_getElem? fun j => ?_
  rw [wipe_get, wipe_get, hl]
  by_cases hj : j ∈ vs ∧ j < σ.length
  · rw [if_pos hj, if_pos hj]
  · rw [if_neg hj, if_neg hj]
    by_cases h2 : j ∈ vs
    · have h3 : ¬ j < σ.length := fun z => hj ⟨h2, z⟩
      rw [List.getElem?_eq_none (by omega), List.getElem?_eq_none (by omega)]
    · rw [h j h2, wipe_get, if_neg fun z => h2 z.1]
section
variable {p : Pm} {ρ0 ρ ρ1 ρ2 : List Addr} {G : List (Addr × HO)} {S : Env'} {σ : L2.St} {h h1 h2 : Hs} {H0 H H1 H2 : Hp}
theorem Stt.unset (s : Stt p ρ0 H0 G ρ S h σ H) (v : Nat) : Stt p ρ0 H0 G ρ (S.set v .none) h (σ.set v none) H := by
  have own : ∀ (i : Nat) t, (S.set v .none)[i]? = some t → isOwn t = true → i ≠ v ∧ S[i]? = some t := fun i t e ot => by
    by_cases hi : v = i
    · subst hi
      have hl : v < S.length := by
        have := (List.getElem?_eq_some_iff.mp e).1
        rwa [List.length_set] at this
      rw [List.getElem?_set_self hl] at e
      cases e; cases ot
    · rw [List.getElem?_set_ne hi] at e
      exact ⟨fun z => hi z.symm, e⟩
  refine { s with len := by rw [List.length_set, List.length_set]; exact s.len, sl := fun i t e => ?_, ap := fun i j t u a hij hi hj ot ou ea => ?_ }
  · by_cases hi : v = i
    · subst hi
      have hl : v < S.length := by
        have := (List.getElem?_eq_some_iff.mp e).1
        rwa [List.length_set] at this
      rw [List.getElem?_set_self hl] at e
      cases e
      exact ⟨none, List.getElem?_set_self (by rw [← s.len]; exact hl), trivial⟩
    · rw [List.getElem?_set_ne hi] at e
      rw [List.getElem?_set_ne hi]
      exact s.sl i t e
  · obtain ⟨n1, e1⟩ := own i t hi ot
    obtain ⟨n2, e2⟩ := own j u hj ou
    rw [List.getElem?_set_ne (Ne.symm n1)] at ea
    rw [List.getElem?_set_ne (Ne.symm n2)]
    exact s.ap i j t u a hij e1 e2 ot ou ea
theorem Stt.wipe (s : Stt p ρ0 H0 G ρ S h σ H) : ∀ vs : List Nat, Stt p ρ0 H0 G ρ (wipeS S vs) h (L2.wipe σ vs) H
  | [] => s
  | v :: vs => (s.wipe vs).unset v
theorem Nx.extN (hr : HR p ρ h H) (e : LamX.ExtN H H1) (tb : LamX.Tabs p.T H1) (tk : ∀ b ps, H b = some (.tbl ps) → ∃ qs, H1 b = some (.tbl qs)) : Nx p ρ H ρ h H1 where
  pre := List.prefix_refl _
  hr := by
    have sq : ∀ a vs, SqT p.K H a vs → SqT p.K H1 a vs := fun a vs q => by
      rcases q with (q | ⟨o, q⟩) | q
      · exact .inl (.inl (e _ _ q fun ps z => by cases z))
      · exact .inl (.inr ⟨o, e _ _ q fun ps z => by cases z⟩)
      · exact .inr q
    have dvs : ∀ {vs : List V} {ds : List D}, DVs p.K ρ H vs ds → DVs p.K ρ H1 vs ds := fun q => q.mono sq fun _ _ z => z
    refine ⟨hr.len, hr.nd, fun j a o h1 h2 => ?_⟩
    have m := hr.ob j a o h1 h2
    cases o with
    | lst ds => obtain ⟨vs, x, r⟩ := m; exact ⟨vs, e _ _ x (fun ps z => by cases z), dvs r⟩
    | dct kd => obtain ⟨vs, x, r1, r2⟩ := m; exact ⟨vs, e _ _ x (fun ps z => by cases z), r1, dvs r2⟩
    | ins c fs => obtain ⟨dx, gs, x, r1, r2⟩ := m; exact ⟨dx, gs, e _ _ x (fun ps z => by cases z), r1, dvs r2⟩
  fr := fun a o x nt _ => e a o x nt
  nw := fun _ m => .inl m
  tk := tk
  tb := tb
end
/-- the same, no exception wished -/
abbrev Cc.calm (c : Cc) : Cc := { c with W := fun _ _ _ _ => False }
abbrev CTs (X : Cx) (c : Cc) (ifs : List Expr) (t : TX) : Prop := PTs X ifs (tT X.K c t)
def xYes : TX := fun _ h => some (.ok true h)
section
variable {X : Cx} {c : Cc} {e elt tg iter : Expr} {pos gpos p : Pos} {ifs : List Expr}
theorem pts_weak {t t' : TT} (he : PTs X ifs t) (h : ∀ σ H Q, t' σ H Q → t σ H Q) : PTs X ifs t' := ⟨fun pins s σ H Q I q => he.run pins s σ H Q I (h σ H Q q)⟩
theorem cts_nil : CTs X c [] xYes := by
  refine pts_weak pts_nil fun σ H Q q => ?_
  obtain ⟨G, ρ, S, h, s, e⟩ := q
  exact e ρ H true (.refl s.hr s.tb) rfl
theorem cts_one {t : TX} (h : CT X c e t) : CTs X c [e] t := pts_one h

/-- any (want), all (not want) -/
def anyL (want : Bool) (g : TGx) (t : TX) (f : EX) (Sw : Env') : List D → Hs → Option (Bool × Hs)
  | [], h => some (!want, h)
  | d :: ds, h => match g d Sw with
    | none => none
    | some S1 => match t S1 h with
      | some (.ok false h1) => anyL want g t f Sw ds h1
      | some (.ok true h1) => match f S1 h1 with
        | some (.ok r h2) => match truR r h2 with
          | some b => if b = want then some (want, h2) else anyL want g t f Sw ds h2
          | none => none
        | _ => none
      | _ => none
def xAny (want : Bool) (i : IX) (vs : List Nat) (g : TGx) (t : TX) (f : EX) : EX := fun S h => andThen (i S h) fun ds h1 => match anyL want g t f (wipeS S vs) ds h1 with
  | some (b, h2) => some (.ok (.d (.bl b)) h2)
  | none => none
theorem tGn_any {want : Bool} {vs ts : List Nat} {i : IX} {g : TGx} {t : TX} {f : EX} {σ : L2.St} {H : Hp} {Q : VK} {fz : FZ} (hts : ∀ k, k ∈ ts → k ∈ vs) (q : tE X.K c (xAny want i vs g t f) σ H Q) :
    tGn c.T (tI X.K c fz i) (tG X.K c.calm ts g) (tT X.K c.calm t) (tE X.K c.calm f) vs (fun H => Q (.bl (!want)) H) (yAny X.K want fun H => Q (.bl want) H) σ H := by
  obtain ⟨G, ρ, S, h, s, e⟩ := q
  refine ⟨G, ρ, S, h, s, e.bind (rel := fun ρ' Hb H' J ds => ItR (c.p X.K) (fz G Hb) ρ' H' J ds) fun ds h1 ρ1 H1 J n1 it e1 => ⟨n1.tb, fun H2 hE hT2 htk => ?_⟩⟩
  have n2 : Nx (c.p X.K) ρ1 H1 ρ1 h1 H2 := .extN n1.hr hE hT2 htk
  obtain ⟨Gd, Y, supp, w, hsup, hgd, hy⟩ := it
  let Fin : Nat → Nat → Hp → Prop := fun i m H' => m = ds.length - i ∧ i ≤ ds.length ∧ ∃ ρ' h', Nx (c.p X.K) ρ H ρ' h' H' ∧ Lt X.K ρ1 H1 ρ' H' ∧ (∀ q ∈ supp, H' q.1 = some q.2 ∧ NoTbl q.2 ∧ q.1 ∉ ρ') ∧ match anyL want g t f (wipeS S vs) (ds.drop i) h' with
    | none => False
    | some (b, h'') => ∀ ρ'' H'', Nx (c.p X.K) ρ H ρ'' h'' H'' → Q (.bl b) H''
  refine ⟨Fin, ⟨ds.length, by simp, Nat.zero_le _, ρ1, h1, n1.trans n2, n2.lt n1.hr, fun q m => ?_, ?_⟩, ?_⟩
  · obtain ⟨a1, a2, a3, _⟩ := hsup q m
    exact ⟨hE _ _ a1 a2, a2, a3⟩
  · rw [List.drop_zero]
    cases hA : anyL want g t f (wipeS S vs) ds h1 with
    | none => rw [hA] at e1; exact e1
    | some bh => rw [hA] at e1; exact fun ρ'' H'' n => e1 ρ'' H'' _ n (.bl _)
  rintro i m H' ⟨rfl, hi, ρ', h', n, l, hs, fin⟩
  have gd := hgd H' fun q m => (hs q m).1
  by_cases hlt : i < ds.length
  · refine .inr ⟨w.goes i H' hlt gd, fun H'' => Fin (i + 1) (ds.length - (i + 1)) H'', fun H'' z => ⟨_, by omega, z⟩, fun x H'' y => ?_⟩
    obtain ⟨n3, d, hd, dv⟩ := hy i ρ' h' H' x H'' l (fun q m => (hs q m).1) n.hr n.tb hlt (w.yields i H' x H'' hlt gd y)
    have ed : ds.drop i = d :: ds.drop (i + 1) := by
      obtain ⟨hlt, hv⟩ := List.getElem?_eq_some_iff.mp hd
      rw [List.drop_eq_getElem_cons hlt, hv]
    rw [ed] at fin
    simp only [anyL] at fin
    have n4 := n.trans n3
    have s4 := s.nx n4
    have sup : ∀ {ρa h_a Ha}, Nx (c.p X.K) ρ' H' ρa h_a Ha → ∀ q ∈ supp, Ha q.1 = some q.2 ∧ NoTbl q.2 ∧ q.1 ∉ ρa := fun {ρa h_a Ha} na q m => by
      obtain ⟨a1, a2, a3⟩ := hs q m
      exact ⟨na.fr _ _ a1 a2 a3, a2, na.fresh a1 a3⟩
    refine ⟨G, ρ', wipeS S vs, h', d, s4.wipe vs, dv, ?_⟩
    cases hg : g d (wipeS S vs) with
    | none => rw [hg] at fin; exact fin
    | some S1 =>
      rw [hg] at fin
      simp only at fin
      intro σ2 hl ho s5
      refine ⟨wipe_same hl fun k hk => ho k fun z => hk (hts k z), G, ρ', S1, h', s5, ?_⟩
      cases ht : t S1 h' with
      | none => rw [ht] at fin; exact fin
      | some r =>
        rw [ht] at fin
        cases r with
        | exc cc h3 => exact fin.elim
        | ok b h3 =>
          intro ρ3 H3 b' n5 eb
          cases eb
          have n35 := n3.trans n5
          cases b with
          | false => exact iteF ⟨rfl, hlt, ρ3, h3, n.trans n35, l.trans (n35.lt n.hr), sup n35, fin⟩
          | true =>
            refine iteT ⟨G, ρ3, S1, h3, s5.nx n5, ?_⟩
            simp only at fin
            cases hf : f S1 h3 with
            | none => rw [hf] at fin; exact fin
            | some r =>
              rw [hf] at fin
              cases r with
              | exc cc h4 => exact fin.elim
              | ok r h4 =>
                intro ρ4 H4 v n6 rv
                simp only at fin
                have n36 := n35.trans n6
                cases htr : truR r h4 with
                | none => rw [htr] at fin; exact fin.elim
                | some k =>
                  rw [htr] at fin
                  simp only at fin
                  refine ⟨k, tru_of n6.hr rv htr, ?_⟩
                  by_cases hk : k = want
                  · rw [if_pos hk] at fin ⊢
                    exact fin ρ4 H4 (n.trans n36)
                  · rw [if_neg hk] at fin ⊢
                    exact ⟨rfl, hlt, ρ4, h4, n.trans n36, l.trans (n36.lt n.hr), sup n36, fin⟩
  · have e : i = ds.length := by omega
    subst e
    rw [List.drop_length] at fin
    exact .inl ⟨w.stops H' gd, fin ρ' H' n⟩
theorem ce_any {k : Nat} {cc P : Addr} {scope : Scope} {own : List (Str × Nat)} {ts : List Nat} {i : IX} {g : TGx} {t : TX} {f : EX} {fz : FZ} (hr : Room k X.A) (hc : X.calm = true) (hN : X.N.Nodup) (S : GSc X.N X.env.scope scope own) (gt : GTab X c.T cc P)
    (hi : CI X c fz tg iter i) (hg : GFam X scope fun G => CG G c.calm tg ts g) (ht : GFam X scope fun G => CTs G c.calm ifs t) (he : GFam X scope fun G => CE G c.calm elt f)
    (hts : ∀ k, k ∈ ts → k ∈ own.map (·.2)) (hs : ∀ v, genFold iter X.env v = pure v) (hgl : Gl X "any") (hm : X.mg "any" = none)
    (hst : starEach [.GeneratorExp elt [⟨tg, iter, ifs, 0⟩] scope gpos] X.env = (false, eval (.GeneratorExp elt [⟨tg, iter, ifs, 0⟩] scope gpos) X.env) :: starEach [] X.env := by rfl) :
    CE X c (.Call (.Name "any" p) [.GeneratorExp elt [⟨tg, iter, ifs, 0⟩] scope gpos] [] pos) (xAny true i (own.map (·.2)) g t f) :=
  pe_weak (pe_gen1 (YQ := fun Q => yAny X.K true fun H => Q (.bl true) H) (Dn := fun Q H => Q (.bl false) H) hr hc hN S gt hi hg ht he hs hgl hm boot_any (by decide) (fun pins σ Q a s' hM => call_anyG hr hM) hst) fun σ H Q q => tGn_any hts q
theorem boot_all : bootBuiltins "all" = some (.builtin "all") := by kernel_rfl
theorem ce_all {k : Nat} {cc P : Addr} {scope : Scope} {own : List (Str × Nat)} {ts : List Nat} {i : IX} {g : TGx} {t : TX} {f : EX} {fz : FZ} (hr : Room k X.A) (hc : X.calm = true) (hN : X.N.Nodup) (S : GSc X.N X.env.scope scope own) (gt : GTab X c.T cc P)
    (hi : CI X c fz tg iter i) (hg : GFam X scope fun G => CG G c.calm tg ts g) (ht : GFam X scope fun G => CTs G c.calm ifs t) (he : GFam X scope fun G => CE G c.calm elt f)
    (hts : ∀ k, k ∈ ts → k ∈ own.map (·.2)) (hs : ∀ v, genFold iter X.env v = pure v) (hgl : Gl X "all") (hm : X.mg "all" = none)
    (hst : starEach [.GeneratorExp elt [⟨tg, iter, ifs, 0⟩] scope gpos] X.env = (false, eval (.GeneratorExp elt [⟨tg, iter, ifs, 0⟩] scope gpos) X.env) :: starEach [] X.env := by rfl) :
    CE X c (.Call (.Name "all" p) [.GeneratorExp elt [⟨tg, iter, ifs, 0⟩] scope gpos] [] pos) (xAny false i (own.map (·.2)) g t f) :=
  pe_weak (pe_gen1 (YQ := fun Q => yAny X.K false fun H => Q (.bl false) H) (Dn := fun Q H => Q (.bl true) H) hr hc hN S gt hi hg ht he hs hgl hm boot_all (by decide) (fun pins σ Q a s' hM => call_allG hr hM) hst) fun σ H Q q => tGn_any hts q
end
end Sh
set_option Elab.async false
set_option linter.all false
set_option maxRecDepth 100000
set_option maxHeartbeats 1000000
namespace Sh
open PySem PySem.Spec PyProof.Rows L2
theorem Nx.wr {p : Pm} {ρ ρ1 : List Addr} {h1 : Hs} {H H1 : Hp} {D : Addr} {w o : HO} (n : Nx p ρ H ρ1 h1 H1) (z : H D = none) (hw : H1 D = some w) (mw : MutO w) (na : D ∉ ρ1) : Nx p ρ H ρ1 h1 (upd H1 D o) where
  pre := n.pre
  hr := ⟨n.hr.len, n.hr.nd, fun j b x hj hx => upd_om hw mw (fun z => na (by rw [← z]; exact List.mem_of_getElem? hj)) (n.hr.ob j b x hj hx)⟩
  fr := fun b x e nt nb => by rw [upd_ne (ne_of_none e z)]; exact n.fr b x e nt nb
  nw := n.nw
  tk := fun b ps e => by
    obtain ⟨qs, q⟩ := n.tk b ps e
    exact ⟨qs, by rw [upd_ne (ne_of_none e z)]; exact q⟩
  tb := upd_tabs hw mw n.tb
theorem upd_lt {K : PySem.W.Frag} {ρ : List Addr} {H : Hp} {q : Addr} {u o : HO} (hq : H q = some u) (m : MutO u) : Lt K ρ H ρ (upd H q o) := ⟨List.prefix_refl _, fun _ _ z => upd_sqt hq m z⟩
/-- a family of contexts: any block of this scope -/
def LFam (X : Cx) (scope : Scope) (p : Cx → Prop) : Prop := ∀ (s : Shared) (H : Hp) (C : Addr) (cl : List (Str × Addr)) (fp : List Addr), p (X.blk s H scope (compEnvC scope cl C X.env) fp)
def lcL (g : TGx) (t : TX) (f : EX) (Sw : Env') : List D → Nat → Hs → Option (List D × Hs)
  | [], _, h => some ([], h)
  | d :: ds, k, h => match g d Sw with
    | none => none
    | some S1 => match t S1 h with
      | some (.ok false h1) => lcL g t f Sw ds k h1
      | some (.ok true h1) => match f S1 h1 with
        | some (.ok (.d v) h2) => if k < sizeLine then (match lcL g t f Sw ds (k + 1) h2 with
            | some (vs, h3) => some (v :: vs, h3)
            | none => none) else none
        | _ => none
      | _ => none
def xLc (i : IX) (vs : List Nat) (g : TGx) (t : TX) (f : EX) : EX := fun S h => andThen (i S h) fun ds h1 => match lcL g t f (wipeS S vs) ds 0 h1 with
  | some (xs, h2) => some (.ok (.new (.lst xs)) h2)
  | none => none
section
variable {X : Cx} {c : Cc} {e elt tg iter : Expr} {pos gpos p : Pos} {ifs : List Expr}
theorem tLc_of {vs ts : List Nat} {i : IX} {g : TGx} {t : TX} {f : EX} {σ : L2.St} {H : Hp} {Q : VK} {fz : FZ} (hts : ∀ k, k ∈ ts → k ∈ vs) (q : tE X.K c (xLc i vs g t f) σ H Q) :
    tLc (tI X.K c fz i) (tG X.K c.calm ts g) (tT X.K c.calm t) (tE X.K c.calm f) vs σ H Q := by
  obtain ⟨G, ρ, S, h, s, e⟩ := q
  refine ⟨G, ρ, S, h, s, e.bind (rel := fun ρ' Hb H' J ds => ItR (c.p X.K) (fz G Hb) ρ' H' J ds) fun ds h1 ρ1 H1 J n1 it e1 => fun A hA => ?_⟩
  have zA : H A = none := n1.old hA s.hr
  have nA1 : A ∉ ρ1 := n1.hr.free hA
  have n2 : Nx (c.p X.K) ρ1 H1 ρ1 h1 (upd H1 A (.lst [])) := .alloc n1.hr n1.tb hA
  obtain ⟨Gd, Y, supp, w, hsup, hgd, hy⟩ := it
  let Fin : Nat → Nat → Hp → Prop := fun i m H' => m = ds.length - i ∧ i ≤ ds.length ∧ ∃ ρ' h' av acc, Nx (c.p X.K) ρ H ρ' h' H' ∧ Lt X.K ρ1 H1 ρ' H' ∧ (∀ q ∈ supp, H' q.1 = some q.2 ∧ NoTbl q.2 ∧ q.1 ∉ ρ' ∧ q.1 ≠ A) ∧ A ∉ ρ' ∧ H' A = some (.lst av) ∧ DVs X.K ρ' H' av acc ∧
    match lcL g t f (wipeS S vs) (ds.drop i) acc.length h' with
    | none => False
    | some (xs, h'') => ∀ ρ'' H'' av', Nx (c.p X.K) ρ H ρ'' h'' H'' → A ∉ ρ'' → H'' A = some (.lst av') → DVs X.K ρ'' H'' av' (acc ++ xs) → Q (.ref A) H''
  refine ⟨Fin, ⟨ds.length, by simp, Nat.zero_le _, ρ1, h1, [], [], n1.trans n2, n2.lt n1.hr, fun q m => ?_, nA1, upd_same, .nil, ?_⟩, ?_⟩
  · obtain ⟨a1, a2, a3, _⟩ := hsup q m
    have ne := ne_of_none a1 hA
    exact ⟨by rw [upd_ne ne]; exact a1, a2, a3, ne⟩
  · rw [List.drop_zero]
    have e1 := e1
    cases hL : lcL g t f (wipeS S vs) ds 0 h1 with
    | none => rw [hL] at e1; exact e1
    | some bh => rw [hL] at e1; exact fun ρ'' H'' av' n na ha r => e1 ρ'' H'' _ n ⟨A, rfl, zA, na, av', ha, r⟩
  rintro i m H' ⟨rfl, hi, ρ', h', av, acc, n, l, hs, na, ha, racc, fin⟩
  have gd := hgd H' fun q m => (hs q m).1
  by_cases hlt : i < ds.length
  · refine .inr ⟨w.goes i H' hlt gd, fun H'' => Fin (i + 1) (ds.length - (i + 1)) H'', fun H'' z => ⟨_, by omega, z⟩, fun x H'' y => ?_⟩
    obtain ⟨n3, d, hd, dv⟩ := hy i ρ' h' H' x H'' l (fun q m => (hs q m).1) n.hr n.tb hlt (w.yields i H' x H'' hlt gd y)
    have ed : ds.drop i = d :: ds.drop (i + 1) := by
      obtain ⟨hlt, hv⟩ := List.getElem?_eq_some_iff.mp hd
      rw [List.drop_eq_getElem_cons hlt, hv]
    rw [ed] at fin
    simp only [lcL] at fin
    have n4 := n.trans n3
    have s4 := s.nx n4
    have sup : ∀ {ρa h_a Ha}, Nx (c.p X.K) ρ' H' ρa h_a Ha → (∀ q ∈ supp, Ha q.1 = some q.2 ∧ NoTbl q.2 ∧ q.1 ∉ ρa ∧ q.1 ≠ A) ∧ A ∉ ρa ∧ Ha A = some (.lst av) ∧ DVs X.K ρa Ha av acc := fun {ρa h_a Ha} nn => by
      refine ⟨fun q m => ?_, nn.fresh ha na, nn.fr _ _ ha (by intro ps z; cases z) na, nn.dvs n.hr racc⟩
      obtain ⟨a1, a2, a3, a4⟩ := hs q m
      exact ⟨nn.fr _ _ a1 a2 a3, a2, nn.fresh a1 a3, a4⟩
    refine ⟨G, ρ', wipeS S vs, h', d, s4.wipe vs, dv, ?_⟩
    cases hg : g d (wipeS S vs) with
    | none => rw [hg] at fin; exact fin
    | some S1 =>
      rw [hg] at fin
      simp only at fin
      intro σ2 hl ho s5
      refine ⟨wipe_same hl fun k hk => ho k fun z => hk (hts k z), G, ρ', S1, h', s5, ?_⟩
      cases ht : t S1 h' with
      | none => rw [ht] at fin; exact fin
      | some r =>
        rw [ht] at fin
        cases r with
        | exc cc h3 => exact fin.elim
        | ok b h3 =>
          intro ρ3 H3 b' n5 eb
          cases eb
          have n35 := n3.trans n5
          cases b with
          | false =>
            obtain ⟨q1, q2, q3, q4⟩ := sup n35
            exact iteF ⟨rfl, hlt, ρ3, h3, av, acc, n.trans n35, l.trans (n35.lt n.hr), q1, q2, q3, q4, fin⟩
          | true =>
            refine iteT ⟨G, ρ3, S1, h3, s5.nx n5, ?_⟩
            simp only at fin
            cases hf : f S1 h3 with
            | none => rw [hf] at fin; exact fin
            | some r =>
              rw [hf] at fin
              cases r with
              | exc cc h4 => exact fin.elim
              | ok r h4 =>
                intro ρ4 H4 v n6 rv
                have n36 := n35.trans n6
                obtain ⟨q1, q2, q3, q4⟩ := sup n36
                cases r with
                | d vd =>
                  simp only at fin
                  split at fin
                  · exact fin.elim
                  · rename_i xs h'' heq
                    split at heq
                    · rename_i hk
                      refine ⟨av, q3, by rw [q4.length]; exact hk, rfl, hlt, ρ4, h4, av ++ [v], acc ++ [vd], (n.trans n36).wr zA q3 trivial q2, (l.trans (n36.lt n.hr)).trans (upd_lt q3 trivial), fun q m => ?_, q2, upd_same, ?_, ?_⟩
                      · obtain ⟨a1, a2, a3, a4⟩ := q1 q m
                        exact ⟨by rw [upd_ne a4]; exact a1, a2, a3, a4⟩
                      · exact (upd_dvs q3 trivial q4).append (.cons (upd_dv q3 trivial rv) .nil)
                      · rw [List.length_append, List.length_singleton]
                        cases hL : lcL g t f (wipeS S vs) (ds.drop (i + 1)) (acc.length + 1) h4 with
                        | none => rw [hL] at heq; cases heq
                        | some z =>
                          obtain ⟨ys, h5⟩ := z
                          rw [hL] at heq
                          cases heq
                          exact fun ρ'' H'' av' a b c' d' => fin ρ'' H'' av' a b c' (by rw [List.append_assoc] at d'; exact d')
                    · cases heq
                | _ => exact fin.elim
  · have e : i = ds.length := by omega
    subst e
    rw [List.drop_length] at fin
    exact .inl ⟨w.stops H' gd, fin ρ' H' av n na ha (by rw [List.append_nil]; exact racc)⟩
theorem ce_lc {scope : Scope} {own : List (Str × Nat)} {ts : List Nat} {i : IX} {g : TGx} {t : TX} {f : EX} {fz : FZ} (hc : X.calm = true) (hN : X.N.Nodup) (ok : BlkOk X.N X.env.scope scope own) (hi : CI X c fz tg iter i)
    (hg : LFam X scope fun G => CG G c.calm tg ts g) (ht : LFam X scope fun G => CTs G c.calm ifs t) (he : LFam X scope fun G => CE G c.calm elt f) (hts : ∀ k, k ∈ ts → k ∈ own.map (·.2)) (hs : ∀ x, foldedSetIterable iter X.env x = pure x := by intro _; rfl) :
    CE X c (.ListComp elt [⟨tg, iter, ifs, 0⟩] scope pos) (xLc i (own.map (·.2)) g t f) :=
  pe_weak (pe_lc (g := tG X.K c.calm ts g) (tt := tT X.K c.calm t) (te := tE X.K c.calm f) hc hN hi ok (fun a b d e k => hg a b d e k) (fun a b d e k => ht a b d e k) (fun a b d e k => he a b d e k) hs) fun σ H Q q => tLc_of hts q
/-- name = [..] on one line -/
theorem cs_setLc {ix : Nat} {y : Str} {py spos : Pos} {scope : Scope} {own : List (Str × Nat)} {ts : List Nat} {i : IX} {g : TGx} {t : TX} {f : EX} {fz : FZ} (hc : X.calm = true) (hN : X.N.Nodup) (hy : X.N[ix]? = some y) (hyl : X.env.scope.names.lookup y = some .local)
    (hsw : swapsWith (.ListComp elt [⟨tg, iter, ifs, 0⟩] scope pos) (some (.Name y py)) spos.line X.env = pure true) (ok : BlkOk X.N X.env.scope scope own) (hi : CI X c fz tg iter i)
    (hg : LFam X scope fun G => CG G c.calm tg ts g) (ht : LFam X scope fun G => CTs G c.calm ifs t) (he : LFam X scope fun G => CE G c.calm elt f) (hts : ∀ k, k ∈ ts → k ∈ own.map (·.2)) (hs : ∀ x, foldedSetIterable iter X.env x = pure x := by intro _; rfl) :
    CS X c (.Assign [.Name y py] (.ListComp elt [⟨tg, iter, ifs, 0⟩] scope pos) spos) (sSet ix (xLc i (own.map (·.2)) g t f)) := by
  refine ps_weak (ps_setLc (g := tG X.K c.calm ts g) (tt := tT X.K c.calm t) (te := tE X.K c.calm f) hc hN hy hyl hsw hi ok (fun a b d e k => hg a b d e k) (fun a b d e k => ht a b d e k) (fun a b d e k => he a b d e k) hs) fun D σ H q => ?_
  obtain ⟨G, ρ, S, h, s, e⟩ := q
  refine tLc_of (Q := fun x H1 => gName ix x σ H1 D.nx) hts ⟨G, ρ, S, h, s, Sd.ex s (.refl s.hr s.tb) e (rel := RV (c.p X.K)) fun r h1 ρ1 H1 v n1 rv e1 => ?_⟩
  cases hsl : slOf r with
  | none => simp only [hsl] at e1; exact e1.elim
  | some sl =>
    simp only [hsl] at e1
    exact e1 G ρ1 _ H1 (fun _ m => m) (n1.lt s.hr) (s.put n1 rv hsl)
end
end Sh
set_option Elab.async false
set_option linter.all false
set_option maxRecDepth 100000
set_option maxHeartbeats 1000000
namespace Sh
open PySem PySem.Spec PyProof.Rows L2
/-! ### defs -/
def slA : R → Sl
  | .d x => .d x
  | .new k => .bor k
  | .bor k => .bor k
def startS (n : Nat) (rs : List R) : Env' := rs.map slA ++ List.replicate (n - rs.length) .none
section
variable {p : Pm} {ρ ρ1 ρ2 : List Addr} {h h1 h2 : Hs} {Hb H H1 H2 : Hp}
theorem RV.slot {v : V} {r : R} (hr : HR p ρ h H) (q : RV p ρ Hb H v r) : SV p ρ [] H H (slA r) (some v) := by
  have kn : ∀ {a : Addr} {k : Cn}, BR p ρ H (fun _ => True) a k → BR p ρ H (Kn [] H) a k := fun {a k} b => by
    cases k with
    | lst ds => obtain ⟨vs, r, e, na, _⟩ := b; exact ⟨vs, r, e, na, .inl (by rw [e]; exact fun z => by cases z)⟩
    | dct kd => obtain ⟨vs, r, e, na, _⟩ := b; exact ⟨vs, r, e, na, .inl (by rw [e]; exact fun z => by cases z)⟩
    | fz ds =>
      obtain ⟨vs, r, q | ⟨⟨o, e⟩, na, _⟩⟩ := b
      · exact ⟨vs, r, .inl q⟩
      · exact ⟨vs, r, .inr ⟨⟨o, e⟩, na, .inl (by rw [e]; exact fun z => by cases z)⟩⟩
  cases r with
  | d x => exact ⟨v, rfl, q⟩
  | new k => obtain ⟨a, rfl, z, na, m⟩ := q; exact ⟨a, rfl, kn (m.br na trivial)⟩
  | bor k => obtain ⟨a, rfl, m⟩ := q; exact ⟨a, rfl, kn m⟩
theorem RVs.get : ∀ {vs : List V} {rs : List R} {i : Nat} {r : R}, RVs p ρ Hb H vs rs → rs[i]? = some r → ∃ v, vs[i]? = some v ∧ RV p ρ Hb H v r
  | _, _, _, _, .nil, e => by simp at e
  | _, _, 0, _, .cons h _, e => by simp at e; subst e; exact ⟨_, rfl, h⟩
  | _, _, i + 1, r, .cons _ t, e => by
    obtain ⟨v, e1, e2⟩ := RVs.get (i := i) (r := r) t (by simpa using e)
    exact ⟨v, by simpa using e1, e2⟩
theorem slA_own (r : R) : isOwn (slA r) = false := by cases r <;> rfl
theorem startS_get {n i : Nat} {rs : List R} {s : Sl} (e : (startS n rs)[i]? = some s) : (∃ r, rs[i]? = some r ∧ s = slA r) ∨ (s = .none ∧ rs.length ≤ i ∧ i < rs.length + (n - rs.length)) := by
  unfold startS at e
  by_cases hi : i < rs.length
  · rw [List.getElem?_append_left (by simpa using hi), List.getElem?_map] at e
    cases hr : rs[i]? with
    | none => rw [hr] at e; cases e
    | some r => rw [hr] at e; cases e; exact .inl ⟨r, rfl, rfl⟩
  · rw [List.getElem?_append_right (by simpa using hi), List.getElem?_replicate] at e
    split at e
    · rename_i hlt
      cases e
      simp only [List.length_map] at hlt
      exact .inr ⟨rfl, by omega, by omega⟩
    · cases e
theorem stt_start {N : List Str} {vs : List V} {rs : List R} (hr : HR p ρ h H) (tb : LamX.Tabs p.T H) (q : RVs p ρ Hb H vs rs) : Stt p ρ H [] ρ (startS N.length rs) h (L2.start N vs) H where
  hr := hr
  tb := tb
  pre := List.prefix_refl _
  fr := fun _ _ e _ _ => e
  nw := fun _ m => .inl m
  tk := fun _ ps e => ⟨ps, e⟩
  gh := fun q m => absurd m (by simp)
  len := by
    have := q.length
    unfold startS L2.start
    simp only [List.length_append, List.length_map, List.length_replicate]
    omega
  sl := fun i s e => by
    have hl := q.length
    rcases startS_get e with ⟨r, e1, rfl⟩ | ⟨rfl, h1, h2⟩
    · obtain ⟨v, e2, rv⟩ := q.get e1
      refine ⟨some v, ?_, rv.slot hr⟩
      have hi := (List.getElem?_eq_some_iff.mp e2).1
      unfold L2.start
      rw [List.getElem?_append_left (by simpa using hi), List.getElem?_map, e2]
      rfl
    · refine ⟨none, ?_, trivial⟩
      unfold L2.start
      rw [List.getElem?_append_right (by simp only [List.length_map]; omega), List.getElem?_replicate, if_pos (by simp only [List.length_map]; omega)]
  ap := fun i j s t a _ e _ os _ _ => by
    rcases startS_get e with ⟨r, _, rfl⟩ | ⟨rfl, _, _⟩
    · rw [slA_own] at os; cases os
    · cases os
end
/-- a def's end as a call's -/
def fnRes : Option Out → Option (Rs R)
  | some (.ret r h) => some (.ok r h)
  | some (.nx _ h) => some (.ok (.d .non) h)
  | some (.exc c _ h) => some (.exc c h)
  | _ => none
abbrev Fd := List R → Hs → Option (Rs R)
def denF (np n : Nat) (body : SX) : Fd := fun rs h => if rs.length = np then fnRes (body (startS n rs) h) else none
def spF (p : Pm) (np : Nat) (g : Fd) : Sp := fun vs H Q E => vs.length = np ∧ ∃ ρ h Ha rs, HR p ρ h H ∧ LamX.Tabs p.T H ∧ RVs p ρ Ha H vs rs ∧ Ed p E ρ H (g rs h) (RV p) Q
theorem spF_none {p : Pm} {np : Nat} {vs : List V} {H : Hp} {Q : VK} {E : XK} (h : spF p np (fun _ _ => none) vs H Q E) : False := by
  obtain ⟨_, ρ, h, Ha, rs, _, _, _, e⟩ := h
  exact e
section
variable {P : Program} {w : World} {K : PySem.W.Frag} {mg : Str → Option Value} {base : Heap}
/-- a def by its body's reading -/
theorem fn_den {T : List (Addr × Str)} {cad : Str → Addr} {k : Nat} {f : Addr} {name qual : Str} {params : Arguments} {body : List Stmt} {scope : Scope} {dV kV doc pm cdv ct oc : Value} {an od : Option Addr} {osl : Array (Option Value)} {N ps : List Str} {g : SX}
    (lk : K.lookup f = some ⟨oc, od, .func (PySem.W.fnOf name qual params body scope dV kV doc pm an cdv ct), osl⟩) (hcd : PySem.W.codeIn K cdv qual = true) (S : FnScope N ps scope)
    (hb : ∀ (A : Around) (outer : List Env) (s : Shared) (ρ0 : List Addr) (H : Hp) (E : XK), Room k (A.deeper (envOfC qual scope s.heap.objs.size f cdv)) →
      CSs (cxOf (L2.CX P w) P w K mg base N qual scope f cdv A outer s H E) ⟨T, cad, ρ0, H, fun cls d _ H' => E cls d H'⟩ body g) :
    FnOk P w K mg base (L2.CX P w) (k + 1) f (PySem.W.fnOf name qual params body scope dV kV doc pm an cdv ct) ps (spF ⟨K, T, cad⟩ ps.length (denF ps.length N.length g)) := by
  refine fn_of lk hcd S (fun vs H Q E h => h.1) fun A outer s H vs Q E hr hsp => ?_
  obtain ⟨hl, ρ, h, Ha, rs, h1, h2, h3, e⟩ := hsp
  refine ⟨_, hb A outer s ρ H E hr, [], ρ, startS N.length rs, h, stt_start h1 h2 h3, ?_⟩
  unfold denF at e
  split at e
  · show Sd _ _ _ _ _ _ _ _ (g (startS N.length rs) h)
    cases hg : g (startS N.length rs) h with
    | none => rw [hg] at e; exact e
    | some o =>
      rw [hg] at e
      cases o with
      | nx S' h' => exact fun G' ρ' σ' H' _ _ s' => e ρ' H' .non s'.whole .non
      | brk S' h' => exact e.elim
      | ct S' h' => exact e.elim
      | ret r h' => exact fun ρ' H' v n rv => e ρ' H' v n rv
      | exc c S' h' => exact fun G' ρ' σ' H' _ _ s' => e ρ' H' s'.whole
  · exact e.elim
end
section
variable {X : Cx} {c : Cc} {e : Expr} {pos p : Pos} {x : Str}
/-- f(e, ..) -/
def opC (np : Nat) (g : Fd) (fa : AX) : EX := fun S h => andThen (fa S h) fun rs h1 => if rs.length = np then g rs h1 else none
theorem Ed.back {p : Pm} {W : XK} {ρ ρ1 : List Addr} {h h1 : Hs} {H H1 : Hp} {o : Option (Rs R)} {Q : VK} (hr : HR p ρ h H) (n : Nx p ρ H ρ1 h1 H1) (e : Ed p W ρ H o (RV p) Q) : Ed p W ρ1 H1 o (RV p) Q := e.later n fun _ _ _ _ z => z.back n hr
theorem ce_call {k np : Nat} {f : Addr} {fd : FuncData} {ps : List Str} {g : Fd} {fa : AX} {es : List Expr} (F : FnOk X.prog X.w X.K X.mg X.base (L2.CX X.prog X.w) k f fd ps (spF (c.p X.K) np g)) (hr : Room k X.A) (hg : Gl X x) (hm : X.mg x = some (.ref f)) (hk : PySem.W.keepIn X.K (.ref f) = true)
    (hb : Binds X.K fd ps []) (tk : Takes X c.W) (ha : CA X c (e :: es) fa) (hdb : (x == ("__debug__" : Str)) = false := by decide) (he : starEach (e :: es) X.env = (false, eval e X.env) :: starEach es X.env := by rfl) (hpl : (backTo pos (starEach es X.env)).any (·.1) = false := by rfl) :
    CE X c (.Call (.Name x p) (e :: es) [] pos) (opC np g fa) := by
  refine pe_weak (pe_callS F hr hg hm hk hb (fun σ => passAt tk σ) ha hdb he hpl) fun σ H Q q => ?_
  obtain ⟨G, ρ, S, h, s, e⟩ := q
  refine ⟨G, ρ, S, h, s, e.bind (rel := RVs (c.p X.K)) fun rs h1 ρ1 H1 vs n1 rv e1 => ?_⟩
  split at e1
  · rename_i hl
    exact ⟨by rw [rv.length]; exact hl, ρ1, h1, H, rs, n1.hr, n1.tb, rv, e1.back s.hr n1⟩
  · exact e1.elim
theorem ce_call0 {k : Nat} {f : Addr} {fd : FuncData} {ps : List Str} {g : Fd} (F : FnOk X.prog X.w X.K X.mg X.base (L2.CX X.prog X.w) k f fd ps (spF (c.p X.K) 0 g)) (hr : Room k X.A) (hg : Gl X x) (hm : X.mg x = some (.ref f)) (hk : PySem.W.keepIn X.K (.ref f) = true)
    (hb : Binds X.K fd ps []) (tk : Takes X c.W) (hdb : (x == ("__debug__" : Str)) = false := by decide) :
    CE X c (.Call (.Name x p) [] [] pos) (opC 0 g aNil) := by
  refine ⟨fun pins s σ H Q I q => ?_⟩
  refine wpAny_Call_Name_kw (ld_glob I hg hm ?_ hdb)
  refine PySem.W.callWith_K0 I.kIn hk (run_fnS (us := []) F hr hb (passAt tk σ) I .nil ?_)
  obtain ⟨G, ρ, S, h, st, e⟩ := q
  exact ⟨rfl, ρ, h, H, [], st.hr, st.tb, .nil, e⟩
/-! ### raise -/
def sRaise (cn : Str) (f : AX) : SX := fun S h => thenS S (f S h) fun rs h1 => if rs.length ≤ sizeLine then some (.exc cn S h1) else none
theorem pmk_own0 {C : Addr} {bmB : List Value} {B newId initId : String} (F : ExcBaseFacts B newId initId bmB) (q : PySem.W.excIn X.K C bmB newId = true) (gC : X.mg x = some (.ref C)) (kC : PySem.W.keepIn X.K (.ref C) = true) (r : Raises X (.ref C)) (hg : Gl X x)
    (hdb : (x == ("__debug__" : Str)) = false := by decide) : PMk X (.Call (.Name x p) [] [] pos) (fun _ H Q => Q (.ref C) none H) := by
  intro pins s σ H Q I h
  refine wpAny_Call_Name_kw (ld_glob I hg gC ?_ hdb)
  refine PySem.W.callWith_K0 I.kIn kC ?_
  show wpAny _ _ (call (.ref C) []) _ _ _
  obtain ⟨bm, N, nm, qn, bs, hdct, sn, sub, ab, col, dd, k0, k1, k2, k3, k5, mN, hC, hN, hni, T⟩ := exc_obj I.kIn q
  refine wpAny_call_exc_subT F T hC hN hni (fun h' e hm => ?_) (Nat.zero_le _)
  exact mk_of I hm r h (I.hok.gone hm.new)
/-- what the written part says of an own exception class without its own __init__ -/
structure ExcAt (X : Cx) (c : Cc) (x cn : Str) : Prop where
  ex : ∃ (bmB : List Value) (B newId initId : String), ExcBaseFacts B newId initId bmB ∧ PySem.W.excIn X.K (c.cad cn) bmB newId = true
  g : X.mg x = some (.ref (c.cad cn))
  k : PySem.W.keepIn X.K (.ref (c.cad cn)) = true
  r : Raises X (.ref (c.cad cn))
theorem cs_raise {cn : Str} {es : List Expr} {f : AX} {pos2 : Pos} (hc : X.calm = true) (tk : Takes X c.W) (ec : ExcAt X c x cn) (hg : Gl X x) (ha : CA X c (e :: es) f) (hdb : (x == ("__debug__" : Str)) = false := by decide)
    (he : starEach (e :: es) X.env = (false, eval e X.env) :: starEach es X.env := by rfl) (hpl : (backTo pos (starEach es X.env)).any (·.1) = false := by rfl) : CS X c (.Raise (some (.Call (.Name x p) (e :: es) [] pos)) none pos2) (sRaise cn f) := by
  obtain ⟨bmB, B, n1, n2, F, q⟩ := ec.ex
  refine ps_weak (ps_raise hc tk (pmk_ownA F q ec.g ec.k ec.r hg ha hdb he hpl)) fun D σ H q => ?_
  obtain ⟨G, ρ, S, h, s, e⟩ := q
  refine ⟨G, ρ, S, h, s, Sd.ex s (.refl s.hr s.tb) e (rel := RVs (c.p X.K)) fun rs h1 ρ1 H1 vs n1 rv e1 => ?_⟩
  split at e1
  · rename_i hl
    exact ⟨by rw [rv.length]; exact hl, e1 G ρ1 σ H1 (fun _ m => m) (n1.lt s.hr) (s.nx n1)⟩
  · exact e1.elim
theorem cs_raise0 {cn : Str} {pos2 : Pos} (hc : X.calm = true) (tk : Takes X c.W) (ec : ExcAt X c x cn) (hg : Gl X x) (hdb : (x == ("__debug__" : Str)) = false := by decide) : CS X c (.Raise (some (.Call (.Name x p) [] [] pos)) none pos2) (sRaise cn aNil) := by
  obtain ⟨bmB, B, n1, n2, F, q⟩ := ec.ex
  refine ps_weak (ps_raise hc tk (pmk_own0 F q ec.g ec.k ec.r hg hdb)) fun D σ H q => ?_
  obtain ⟨G, ρ, S, h, s, e⟩ := q
  have e : Sd _ _ _ _ _ _ _ _ (sRaise cn aNil S h) := e
  unfold sRaise aNil thenS at e
  simp only [List.length_nil, Nat.zero_le, if_true] at e
  exact e G ρ σ H (fun _ m => m) .refl s
/-! ### try .. except C: -/
def calmS : Option Out → Option Out
  | some (.exc _ _ _) => none
  | r => r
def sTry (m : Str → Option Bool) (fb fs : SX) : SX := fun S h => match fb S h with
  | some (.exc cn S1 h1) => (match m cn with
    | some true => calmS (fs S1 h1)
    | some false => some (.exc cn S1 h1)
    | none => none)
  | r => r
theorem cs_try_only {cv : Value} {body suite : List Stmt} {b₀ : Stmt} {np pos pos' : Pos} {m : Str → Option Bool} {fb fs : SX} (hs : X.stack = X.env :: X.outer) (hf : X.env.frame = some X.env.locals) (hc : Names X x cv) (tk : Takes X c.W)
    (hm : ∀ cn b, m cn = some b → PySem.W.exmOne X.K (.ref (c.cad cn)) cv = some b)
    (hb : ∀ (W : WX) (pn : List (Addr × Obj)) (xe : Value → Shared → Prop), Takes (X.tr pn xe) W → PassesOwn (model X.prog X.w) X.A X.env xe → CSs (X.tr pn xe) { c with W := W } body fb)
    (hsu : ∀ (a : Addr) (pn : List (Addr × Obj)), CSs (X.suite a pn) c.calm (b₀ :: suite) fs) :
    CS X c (.Try body [.ExceptHandler (some (.Name x np)) none (b₀ :: suite) pos'] [] [] pos) (sTry m fb fs) := by
  refine ps_weak (ps_try_only (tb := fun W => tS X.K { c with W := W } fb) (ts := fun _ _ _ => tS X.K c.calm fs) (Wout := c.W) hs hf hc tk hb (fun a oe cls d pn _ _ => hsu a ((a, oe) :: pn))) fun D σ H q => ?_
  obtain ⟨G, ρ, S, h, s, e⟩ := q
  refine ⟨G, ρ, S, h, s, ?_⟩
  have e : Sd _ _ _ _ _ _ _ _ (sTry m fb fs S h) := e
  unfold sTry at e
  show Sd _ _ _ _ _ _ _ _ (fb S h)
  cases hfb : fb S h with
  | none => rw [hfb] at e; exact e
  | some r =>
    rw [hfb] at e
    cases r with
    | exc cn S1 h1 =>
      simp only at e
      intro G' ρ' σ' H' hg l s'
      cases hmc : m cn with
      | none => rw [hmc] at e; exact e.elim
      | some b =>
        rw [hmc] at e
        refine ⟨b, hm cn b hmc, fun hb a ha => ?_, fun hb => ?_⟩
        · subst hb
          simp only at e
          refine ⟨G', ρ', S1, h1, s', ?_⟩
          have e := Sd.later e l hg
          show Sd _ _ _ _ _ _ _ _ (fs S1 h1)
          cases hfs : fs S1 h1 with
          | none => rw [hfs] at e; exact e
          | some r =>
            rw [hfs] at e
            cases r with
            | exc cn S1 h1 => exact e.elim
            | _ => exact e
        · subst hb
          exact e G' ρ' σ' H' hg l s'
    | nx S1 h1 => exact e
    | brk S1 h1 => exact e
    | ct S1 h1 => exact e
    | ret r h1 => exact e
end
end Sh
set_option Elab.async false
set_option linter.all false
set_option maxRecDepth 100000
set_option maxHeartbeats 1000000
/-! enumerate over reversed(a list or a tuple) -/
namespace Sh
open PySem PySem.Spec PyProof.Rows L2
section
variable {prog : Program} {w : World} {A : Around} {E : Value → Shared → Prop} {s : Shared}
theorem of_rev_item {it l : Addr} {i : Nat} {items : Array Value} {x : Value} {Q : Value → Shared → Prop} (hit : s.heap.IsRevIter it l (i : Int)) (hl : s.heap.IsList l items) (hx : items[i]? = some x)
    (hQ : ∀ h', h'.IsRevIter it l ((i : Int) - 1) → Heap.SameBut it s.heap h' → Q x { s with heap := h' }) : wpAny (model prog w) A (Builtin.SmallTypes.nextOf (.ref it)) Q E s := by
  obtain ⟨o, ho, hc, hd⟩ := id hit
  obtain ⟨ol, hol, _, nl, hdl⟩ := hl
  unfold Builtin.SmallTypes.nextOf
  refine wpAny_bind (wpAny_callSpecial?_slot (name := Str.ofString "__next__") hit.typeIs F.slot_lri_next
    (wpAny_call_entry F.slot_lri_next hit.typeIs F.entry_lri_next ?_ (F.args_lri_next_1 _)))
  unfold Builtin.«list_reverseiterator.__next__»
  refine wpAny_bind (wpAny_of_eq (a := (Value.ref it, [])) rfl ?_)
  try dsimp only
  refine wpAny_bind (wpAny_field ho hd (x := rawInt (i : Int)) rfl ?_)
  show wpAny _ _ (if (i : Int) < 0 then _ else _) _ _ s
  rw [if_neg (by omega)]
  show wpAny _ _ (field (.ref it) 0 >>= _) _ _ s
  refine wpAny_bind (wpAny_field ho hd (x := .ref l) rfl ?_)
  show wpAny _ _ (seqItems? (.ref l) >>= _) _ _ s
  refine wpAny_bind (wpAny_seqItems hol hdl ?_)
  simp only [Int.toNat_natCast, hx]
  refine wpAny_bind (wpAny_setField ho hd (by simp) ?_)
  first
  | refine wpAny_pure ⟨x, rfl, wpAny_pure (hQ _ ?_ (Heap.SameBut.update ..))⟩
  | refine wpAny_bind (wpAny_pure (wpAny_pure ⟨x, rfl, wpAny_pure (hQ _ ?_ (Heap.SameBut.update ..))⟩))
  exact ⟨_, Heap.get?_update_self _ ho (Obj.isFreed_of_fields (Obj.data_mapFields hd _)), (Obj.cls_mapFields ..).trans hc, by
    rw [Obj.data_mapFields hd]; simp⟩
theorem of_rev_end {it l : Addr} {Q : Value → Shared → Prop} (hh : A.handled = none) (hit : s.heap.IsRevIter it l (-1))
    (hE : ∀ h' e, Heap.ExtBut it s.heap h' → (∃ o, h'.get? e = some o ∧ o.cls = .type "StopIteration") → E (.ref e) { s with heap := h' }) : wpAny (model prog w) A (Builtin.SmallTypes.nextOf (.ref it)) Q E s := by
  obtain ⟨o, ho, hc, hd⟩ := id hit
  unfold Builtin.SmallTypes.nextOf
  refine wpAny_bind (wpAny_callSpecial?_slot (name := Str.ofString "__next__") hit.typeIs F.slot_lri_next
    (wpAny_call_entry F.slot_lri_next hit.typeIs F.entry_lri_next ?_ (F.args_lri_next_1 _)))
  unfold Builtin.«list_reverseiterator.__next__»
  refine wpAny_bind (wpAny_of_eq (a := (Value.ref it, [])) rfl ?_)
  try dsimp only
  refine wpAny_bind (wpAny_field ho hd (x := rawInt (-1)) rfl ?_)
  show wpAny _ _ (if (-1 : Int) < 0 then _ else _) _ _ s
  rw [if_pos (by decide)]
  refine wpAny_bind (wpAny_rule ?_)
  first
  | show wpAny _ _ (newExc (.type "StopIteration") [] >>= _) _ _ _
  | (refine wpAny_bind ?_; show wpAny _ _ (newExc (.type "StopIteration") [] >>= _) _ _ _)
  refine wpAny_bind ?_
  simp only [newExc, newTuple]
  refine wpAny_bind (wpAny_newObj_type ?_ (by size_fits))
  refine wpAny_bind (m := firstArgMember _ _) (wpAny_of_eq (a := Value.none) (by first | rfl | (simp only [firstArgMember]; rfl)) ?_)
  refine wpAny_newObj_type ?_ (by size_fits)
  simp only [raiseNew]
  refine wpAny_bind (wpAny_handled ?_)
  first | rw [show A.in1.handled = none from hh] | rw [hh]
  refine wpAny_bind (wpAny_pure (wpAny_throw ?_))
  refine hE _ _ ?_ ⟨_, Heap.get?_push_size _ rfl, rfl⟩
  first
    | exact ((Heap.SameBut.update ..).extBut.push _).push _
    | exact ((Heap.ExtBut.refl it _).push _).push _
theorem of_rt_item {it t : Addr} {i : Nat} {items : Array Value} {x : Value} {Q : Value → Shared → Prop} (hit : RT.IsRt s.heap it t (i : Int)) (ht : IsTup s.heap t items) (hx : items[i]? = some x) (hsz : items.size ≤ sizeLine)
    (hQ : ∀ h', RT.IsRt h' it t ((i : Int) - 1) → Heap.SameBut it s.heap h' → Q x { s with heap := h', toks := s.toks + 1 }) : wpAny (model prog w) A (Builtin.SmallTypes.nextOf (.ref it)) Q E s := by
  obtain ⟨o, ho, hc, hd⟩ := id hit
  have hi : i < items.size := (Array.getElem?_eq_some_iff.mp hx).1
  have hT : s.TypeIs (.ref t) "tuple" := RT.IsTup.typeOf' ht
  rw [sizeLine_eq] at hsz
  unfold Builtin.SmallTypes.nextOf
  refine wpAny_bind (wpAny_callSpecial?_slot (name := Str.ofString "__next__") hit.typeIs RT.slot_rt_next
    (wpAny_call_entry RT.slot_rt_next hit.typeIs RT.entry_rt_next ?_ (RT.args_rt_next _)))
  unfold Builtin.«reversed.__next__»
  refine wpAny_bind (wpAny_of_eq (a := (Value.ref it, [])) rfl ?_)
  try dsimp only
  refine wpAny_bind (wpAny_field ho hd (x := .ref t) rfl ?_)
  try dsimp only
  refine wpAny_bind (wpAny_field ho hd (x := rawInt (i : Int)) rfl ?_)
  show wpAny _ _ (if (i : Int) < 0 then _ else _) _ _ s
  rw [if_neg (by omega)]
  try dsimp only
  refine wpAny_bind (wpAny_specialOf hT RT.get_tuple ?_)
  try dsimp only
  try rw [if_neg (by decide)]
  try dsimp only
  refine wpAny_bind (wpAny_mkInt ?_)
  refine wpAny_bind (wpAny_attempt ?_)
  have fin : seqIndex? (i : Int) items.size = some i := seqIndex_of (by omega) (by omega)
  refine PyProof.Rows.getItem_tuple (s := { s with toks := s.toks + 1 }) ht (by omega) (by omega) fin hx ?_
  try dsimp only
  refine wpAny_bind (wpAny_field (s := { s with toks := s.toks + 1 }) ho hd (x := rawInt (i : Int)) rfl ?_)
  try dsimp only
  refine wpAny_bind (wpAny_setField (s := { s with toks := s.toks + 1 }) ho hd (by simp) ?_)
  first
  | refine wpAny_pure ⟨x, rfl, wpAny_pure (hQ _ ?_ (Heap.SameBut.update ..))⟩
  | refine wpAny_bind (wpAny_pure (wpAny_pure ⟨x, rfl, wpAny_pure (hQ _ ?_ (Heap.SameBut.update ..))⟩))
  exact ⟨_, Heap.get?_update_self _ ho (Obj.isFreed_of_fields (Obj.data_mapFields hd _)), (Obj.cls_mapFields ..).trans hc, by
    rw [Obj.data_mapFields hd]; simp⟩
theorem of_rt_end {it t : Addr} {Q : Value → Shared → Prop} (hh : A.handled = none) (hit : RT.IsRt s.heap it t (-1))
    (hE : ∀ h' e, Heap.ExtBut it s.heap h' → (∃ o, h'.get? e = some o ∧ o.cls = .type "StopIteration") → E (.ref e) { s with heap := h' }) : wpAny (model prog w) A (Builtin.SmallTypes.nextOf (.ref it)) Q E s := by
  obtain ⟨o, ho, hc, hd⟩ := id hit
  unfold Builtin.SmallTypes.nextOf
  refine wpAny_bind (wpAny_callSpecial?_slot (name := Str.ofString "__next__") hit.typeIs RT.slot_rt_next
    (wpAny_call_entry RT.slot_rt_next hit.typeIs RT.entry_rt_next ?_ (RT.args_rt_next _)))
  unfold Builtin.«reversed.__next__»
  refine wpAny_bind (wpAny_of_eq (a := (Value.ref it, [])) rfl ?_)
  try dsimp only
  refine wpAny_bind (wpAny_field ho hd (x := .ref t) rfl ?_)
  try dsimp only
  refine wpAny_bind (wpAny_field ho hd (x := rawInt (-1)) rfl ?_)
  show wpAny _ _ (if (-1 : Int) < 0 then _ else _) _ _ s
  rw [if_pos (by decide)]
  try dsimp only
  refine wpAny_bind (wpAny_rule ?_)
  refine wpAny_bind ?_
  wp_delta
  refine wpAny_bind (wpAny_setField ho hd (by simp) ?_)
  have ho2 := Heap.get?_update_self (Obj.mapFields (·.setIfInBounds 1 (rawInt (-1)))) ho (Obj.isFreed_of_fields (Obj.data_mapFields hd _))
  refine wpAny_setField (s := { s with heap := s.heap.update it (Obj.mapFields (·.setIfInBounds 1 (rawInt (-1)))) }) ho2 (Obj.data_mapFields hd _) (by simp) ?_
  try dsimp only
  first
  | show wpAny _ _ (newExc (.type "StopIteration") [] >>= _) _ _ _
  | (refine wpAny_bind ?_; show wpAny _ _ (newExc (.type "StopIteration") [] >>= _) _ _ _)
  | (refine wpAny_bind ?_; wp_delta; show wpAny _ _ (newExc (.type "StopIteration") [] >>= _) _ _ _)
  refine wpAny_bind ?_
  simp only [newExc, newTuple]
  refine wpAny_bind (wpAny_newObj_type ?_ (by size_fits))
  refine wpAny_bind (m := firstArgMember _ _) (wpAny_of_eq (a := Value.none) (by first | rfl | (simp only [firstArgMember]; rfl)) ?_)
  refine wpAny_newObj_type ?_ (by size_fits)
  simp only [raiseNew]
  refine wpAny_bind (wpAny_handled ?_)
  first | rw [show A.in1.handled = none from hh] | rw [hh]
  refine wpAny_bind (wpAny_pure (wpAny_throw ?_))
  refine hE _ _ ?_ ⟨_, Heap.get?_push_size _ rfl, rfl⟩
  refine ((?_ : Heap.ExtBut it s.heap _).push _).push _
  exact fun b ob hb e => (Heap.get?_update_other _ _ (Ne.symm hb)).trans ((Heap.get?_update_other _ _ (Ne.symm hb)).trans e)
end
theorem draws_rev {prog : Program} {w : World} {A : Around} (hh : A.handled = none) (it l : Addr) (hne : l ≠ it) (items : Array Value) :
    Draws prog w A it [it, l] items.size (fun i v => items[items.size - 1 - i]? = some v) (fun i h => i ≤ items.size ∧ h.IsRevIter it l ((items.size : Int) - 1 - (i : Int)) ∧ h.IsList l items) where
  live := fun _ _ st => let ⟨_, ⟨o, ho, _⟩, _⟩ := st; ⟨o, ho⟩
  frame := fun _ _ _ st hk => ⟨st.1, st.2.1.at fun o e => hk it (by simp) o e, st.2.2.at fun o e => hk l (by simp) o e⟩
  item := fun i s Q E hi st hQ => by
    have e1 : (items.size : Int) - 1 - (i : Int) = ((items.size - 1 - i : Nat) : Int) := by omega
    have hit := st.2.1
    rw [e1] at hit
    have hx : items[items.size - 1 - i]? = some (items[items.size - 1 - i]'(by omega)) := Array.getElem?_eq_getElem (by omega)
    refine of_rev_item hit st.2.2 hx fun h' hit' hs' => ?_
    have e2 : ((items.size - 1 - i : Nat) : Int) - 1 = (items.size : Int) - 1 - ((i + 1 : Nat) : Int) := by omega
    rw [e2] at hit'
    exact hQ _ h' s.toks hx ⟨hi, hit', st.2.2.at fun o eo => (hs'.2 l hne).trans eo⟩ hs'
  done := fun s Q E st hE => by
    have e : (items.size : Int) - 1 - (items.size : Int) = -1 := by omega
    have hit := st.2.1
    rw [e] at hit
    exact of_rev_end hh hit hE
theorem draws_rt {prog : Program} {w : World} {A : Around} (hh : A.handled = none) (it l : Addr) (hne : l ≠ it) (items : Array Value) (hsz : items.size ≤ sizeLine) :
    Draws prog w A it [it, l] items.size (fun i v => items[items.size - 1 - i]? = some v) (fun i h => i ≤ items.size ∧ RT.IsRt h it l ((items.size : Int) - 1 - (i : Int)) ∧ IsTup h l items) where
  live := fun _ _ st => let ⟨_, ⟨o, ho, _⟩, _⟩ := st; ⟨o, ho⟩
  frame := fun _ _ _ st hk => ⟨st.1, st.2.1.at fun o e => hk it (by simp) o e, let ⟨o, ho, r⟩ := st.2.2; ⟨o, hk l (by simp) o ho, r⟩⟩
  item := fun i s Q E hi st hQ => by
    have e1 : (items.size : Int) - 1 - (i : Int) = ((items.size - 1 - i : Nat) : Int) := by omega
    have hit := st.2.1
    rw [e1] at hit
    have hx : items[items.size - 1 - i]? = some (items[items.size - 1 - i]'(by omega)) := Array.getElem?_eq_getElem (by omega)
    refine of_rt_item hit st.2.2 hx hsz fun h' hit' hs' => ?_
    have e2 : ((items.size - 1 - i : Nat) : Int) - 1 = (items.size : Int) - 1 - ((i + 1 : Nat) : Int) := by omega
    rw [e2] at hit'
    exact hQ _ h' (s.toks + 1) hx ⟨hi, hit', let ⟨o, ho, r⟩ := st.2.2; ⟨o, (hs'.2 l hne).trans ho, r⟩⟩ hs'
  done := fun s Q E st hE => by
    have e : (items.size : Int) - 1 - (items.size : Int) = -1 := by omega
    have hit := st.2.1
    rw [e] at hit
    exact of_rt_end hh hit hE
/-- enumerate(v), v an iterator -/
theorem meets_enum_it {v : Addr} {H : Heap → Prop} (B : ∀ (prog : Program) (w : World) (A : Around) (E : Value → Shared → Prop) (s : Shared) (Q : Value → Shared → Prop), H s.heap → Q (.ref v) s → wpAny (model prog w) A (pyIter (.ref v)) Q E s) :
    Meets (Builtin.«enumerate.__new__» ⟨[.type "enumerate", .ref v], []⟩) (fun _ R s => H s.heap ∧
      R (.ok (.ret (.ref s.heap.objs.size))) { s with heap := s.heap.push { cls := .type "enumerate", data := .fields #[.none, .bool false, .ref v, rawInt 0, .none, .none] } }) :=
  .of_wp fun prog w A R s h => by
    obtain ⟨hp, g, d, tk, os⟩ := s; obtain ⟨h1, h⟩ := h
    have hsub := sub_enumerate
    have q1 : ∀ {A' : Around} {E : Value → Shared → Prop} {Q : Value → Shared → Prop}, Q (.ref v) ⟨hp, g, d, tk, os⟩ → wpAny (model prog w) A' (pyIter (.ref v)) Q E ⟨hp, g, d, tk, os⟩ :=
      fun q => B prog w _ _ ⟨hp, g, d, tk, os⟩ _ h1 q
    wp_walk using q1
    refine wpAny_stack_any fun st => wpAny_pure ?_
    split
    · rename_i c _ _ _ _ _
      cases (c == Value.type "enumerate")
      · wp_walk using q1
        exact ⟨_, rfl, h⟩
      · wp_walk using q1
        exact ⟨_, rfl, h⟩
    · wp_walk using q1
      exact ⟨_, rfl, h⟩
theorem call_enum_it {prog : Program} {w : World} {A : Around} {E : Value → Shared → Prop} {s : Shared} {v : Addr} {H : Heap → Prop} {Q : Value → Shared → Prop} (B : ∀ (prog : Program) (w : World) (A : Around) (E : Value → Shared → Prop) (s : Shared) (Q : Value → Shared → Prop), H s.heap → Q (.ref v) s → wpAny (model prog w) A (pyIter (.ref v)) Q E s)
    (h1 : H s.heap) (h : Q (.ref s.heap.objs.size) { s with heap := s.heap.push { cls := .type "enumerate", data := .fields #[.none, .bool false, .ref v, rawInt 0, .none, .none] } }) :
    wpAny (model prog w) A (call (.type "enumerate") [.ref v]) Q E s := by
  refine callType_new F.called_enumerate (by decide) (F.typeCall_enumerate_1 _) (F.newCall_enumerate_1 _) (fun obj => F.args_object_init_2 obj _) F.entry_enumerate_new
    (meets_enum_it B) ⟨h1, ?_⟩
  show _ ∧ _
  exact ⟨⟨_, Heap.get?_push_size _ rfl, rfl⟩, h⟩
end Sh
set_option Elab.async false
set_option linter.all false
set_option maxRecDepth 100000
set_option maxHeartbeats 1000000
namespace Sh
open PySem PySem.Spec PyProof.Rows L2

def ItvE (K : PySem.W.Frag) (a : Addr) (n : Nat) : It :=
  ⟨fun i H => i < n ∧ ∃ (xs : List V), SqL K H a xs ∧ xs.length = n, fun i H v H' => ∃ T x, v = .ref T ∧ H T = none ∧ H' = upd H T (.tup [.int (i : Nat), x]) ∧ ∀ xs, SqL K H a xs → xs[n - 1 - i]? = some x, fun i H => i = n ∧ ∃ xs : List V, SqL K H a xs ∧ xs.length = n⟩
theorem turn_revE {P : Program} {w : World} {K : PySem.W.Frag} {elts : List Expr} {kk : Nat} {tpos : Pos} (a e it : Addr) (n : Nat) :
    Turn P w K (.Tuple elts kk tpos) (ItvE K a n) [e, it] e (fun i h => i ≤ n ∧ (∃ old, IsEnum h e it ((i : Nat) : Int) old) ∧ Heap.IsRevIter h it a ((n : Int) - 1 - (i : Nat)) ∧ e ≠ it) where
  mem := by simp
  obj := fun i h st b hb => by
    obtain ⟨_, ⟨old, he⟩, ⟨o, ho, hc, hd⟩, _⟩ := st
    have e' : b = e ∨ b = it := by simpa using hb
    rcases e' with z | z
    · rw [z]; exact ⟨_, he, fun v q => nomatch q⟩
    · rw [z]; exact ⟨o, ho, fun v q => by rw [hd] at q; cases q⟩
  keep := fun i h h' st k => let ⟨h1, ⟨old, he⟩, hi, hne⟩ := st; ⟨h1, ⟨old, k e (by simp) _ he⟩, hi.at fun o q => k it (by simp) o q, hne⟩
  item := by
    intro X hP hw hK hc i pins s σ H E I hf st hg
    subst hP hw hK
    obtain ⟨hin, ⟨old, he⟩, hit, hne⟩ := st
    obtain ⟨hlt, xs, hq, hn⟩ := hg
    obtain ⟨its, rv, p, hz⟩ := I.list hq
    have hl := rv.length
    have hsz : its.toArray.size = n := by rw [List.size_toArray]; omega
    obtain ⟨ol, hol, hcl, _⟩ := id p.isList
    have hai : a ≠ it := fun z => by
      obtain ⟨o, ho, hc, _⟩ := id hit
      rw [← z, hol] at ho; cases ho; rw [hcl] at hc; exact absurd (Value.type.inj hc) (by decide)
    have hea : e ≠ a := fun z => by
      have he' := he
      unfold IsEnum at he'
      rw [z, hol] at he'; rw [Option.some.inj he'] at hcl; exact absurd (Value.type.inj hcl) (by decide)
    have D := draws_rev (prog := X.prog) (w := X.w) (A := X.A.in1) (I.ok.hd hc) it a hai its.toArray 
    have hel : e < s.heap.objs.size := Heap.lt_size he
    have hil : it < s.heap.objs.size := by obtain ⟨_, q, _⟩ := hit; exact Heap.lt_size q
    rw [← hsz] at hit
    refine wpAny_pyNext_enum_itemD D he ⟨by omega, hit, p.isList⟩ (by omega) hne (by simp [hne, hea]) fun u h' tk hu ho hit' hT hsz' hk => ?_
    refine ⟨_, rfl, wpAny_letOwnedTupleGo_enum (s := { s with heap := h', toks := tk + 1 }) ho fun h'' he' sb => ?_⟩
    have hT2 : h''.get? s.heap.objs.size = some { cls := .type "tuple", data := .seq #[.int i tk, u] } := (sb.2 _ (Nat.ne_of_gt hel)).trans hT
    have hix : n - 1 - i < xs.length := by omega
    have hx : xs[n - 1 - i]? = some xs[n - 1 - i] := List.getElem?_eq_getElem hix
    obtain ⟨u', hu', ru⟩ := rv.get hx
    have eu : u' = u := by
      rw [hsz] at hu
      have hu2 : its[n - 1 - i]? = some u := by simpa using hu
      rw [hu'] at hu2; exact Option.some.inj hu2
    subst eu
    have new : ObjOk X.prog X.w (upd H s.heap.objs.size (.tup [.int (i : Nat), xs[n - 1 - i]])) h'' s.heap.objs.size (.tup [.int (i : Nat), xs[n - 1 - i]]) :=
      ⟨by show 2 ≤ sizeLine; decide, [.int i tk, u'], .cons ⟨_, rfl⟩ (.cons ru .nil), ⟨_, hT2, rfl, _, rfl⟩⟩
    have I1 : L2.Inv X pins σ (upd H s.heap.objs.size (.tup [.int (i : Nat), xs[n - 1 - i]])) { s with heap := h'', toks := tk + 1 } :=
      I.turnedNew (ch := [e, it]) (fun b ob hb q => (sb.2 b (fun z => hb (by simp [z]))).trans (hk b ob (fun z => hb (by simp [z])) (fun z => hb (by simp [z])) q)) hf (Nat.le_refl _) new
    refine ⟨.ref s.heap.objs.size, _, I1, rfl, ⟨_, _, rfl, I.hok.fresh (Nat.le_refl _), rfl, fun ys hy => by rw [I.list_inj hy hq]; exact hx⟩, ⟨by omega, ⟨u', ?_⟩, ?_, hne⟩, fun b hb => ?_⟩
    · have e1 : ((i + 1 : Nat) : Int) = (i : Int) + 1 := by omega
      rw [e1]; exact he'
    · have h3 := hit'.2.1
      rw [hsz] at h3
      exact h3.at fun o q => (sb.2 it (Ne.symm hne)).trans q
    · have hb' : b < s.heap.objs.size := by
        have e' : b = e ∨ b = it := by simpa using hb
        rcases e' with z | z
        · rw [z]; exact hel
        · rw [z]; exact hil
      rw [upd_ne (Nat.ne_of_lt hb')]
      exact (hf b hb).1
  done := by
    intro X hP hw hK hc i pins s σ H E I hf st hg
    subst hP hw hK
    obtain ⟨hin, ⟨old, he⟩, hit, hne⟩ := st
    obtain ⟨rfl, xs, hq, hn⟩ := hg
    obtain ⟨its, rv, p, hz⟩ := I.list hq
    have hl := rv.length
    have hsz : its.toArray.size = i := by rw [List.size_toArray]; omega
    obtain ⟨ol, hol, hcl, _⟩ := id p.isList
    have hai : a ≠ it := fun z => by
      obtain ⟨o, ho, hc, _⟩ := id hit
      rw [← z, hol] at ho; cases ho; rw [hcl] at hc; exact absurd (Value.type.inj hc) (by decide)
    have D := draws_rev (prog := X.prog) (w := X.w) (A := X.A.in1) (I.ok.hd hc) it a hai its.toArray 
    obtain ⟨f0, f1, f2, f3, f4, f5⟩ := hf it (by simp)
    have hst : (fun j (h : Heap) => j ≤ its.toArray.size ∧ Heap.IsRevIter h it a ((its.toArray.size : Int) - 1 - (j : Int)) ∧ Heap.IsList h a its.toArray) its.toArray.size s.heap := by
      refine ⟨Nat.le_refl _, ?_, p.isList⟩
      rw [hsz]
      exact hit
    exact wpAny_pyNext_enum_endD D he hst fun h' eb => ⟨rfl, I.turned (t' := s.toks) (fun b o hb q => eb b o hb q) f0 f1 f3 f4 f5⟩
  self := fun A i s Q E st h => let ⟨_, ⟨_, he⟩, _⟩ := st; wpAny_pyIter_enum he h
theorem walk_revE {K : PySem.W.Frag} {a : Addr} {xs : List V} : Walk (ItvE K a xs.length) xs.length (fun H => SqL K H a xs) (fun i H v H' => ∃ T x, v = .ref T ∧ H T = none ∧ H' = upd H T (.tup [.int (i : Nat), x]) ∧ xs[xs.length - 1 - i]? = some x) :=
  ⟨fun i _ hi q => ⟨hi, xs, q, rfl⟩, fun _ q => ⟨rfl, xs, q, rfl⟩, fun _ _ _ _ _ q y => let ⟨T, x, h1, h2, h3, h4⟩ := y; ⟨T, x, h1, h2, h3, h4 xs q⟩⟩

def ItvTE (K : PySem.W.Frag) (a : Addr) (n : Nat) : It :=
  ⟨fun i H => i < n ∧ ∃ (xs : List V), SqT K H a xs ∧ xs.length = n, fun i H v H' => ∃ T x, v = .ref T ∧ H T = none ∧ H' = upd H T (.tup [.int (i : Nat), x]) ∧ ∀ xs, SqT K H a xs → xs[n - 1 - i]? = some x, fun i H => i = n ∧ ∃ xs : List V, SqT K H a xs ∧ xs.length = n⟩
theorem turn_rtE {P : Program} {w : World} {K : PySem.W.Frag} {elts : List Expr} {kk : Nat} {tpos : Pos} (a e it : Addr) (n : Nat) :
    Turn P w K (.Tuple elts kk tpos) (ItvTE K a n) [e, it] e (fun i h => i ≤ n ∧ (∃ old, IsEnum h e it ((i : Nat) : Int) old) ∧ RT.IsRt h it a ((n : Int) - 1 - (i : Nat)) ∧ e ≠ it) where
  mem := by simp
  obj := fun i h st b hb => by
    obtain ⟨_, ⟨old, he⟩, ⟨o, ho, hc, hd⟩, _⟩ := st
    have e' : b = e ∨ b = it := by simpa using hb
    rcases e' with z | z
    · rw [z]; exact ⟨_, he, fun v q => nomatch q⟩
    · rw [z]; exact ⟨o, ho, fun v q => by rw [hd] at q; cases q⟩
  keep := fun i h h' st k => let ⟨h1, ⟨old, he⟩, hi, hne⟩ := st; ⟨h1, ⟨old, k e (by simp) _ he⟩, hi.at fun o q => k it (by simp) o q, hne⟩
  item := by
    intro X hP hw hK hc i pins s σ H E I hf st hg
    subst hP hw hK
    obtain ⟨hin, ⟨old, he⟩, hit, hne⟩ := st
    obtain ⟨hlt, xs, hq, hn⟩ := hg
    obtain ⟨its, rv, p, hz⟩ := I.tuple hq
    have hl := rv.length
    have hsz : its.toArray.size = n := by rw [List.size_toArray]; omega
    obtain ⟨ol, hol, hcl, _⟩ := id p
    have hai : a ≠ it := fun z => by
      obtain ⟨o, ho, hc, _⟩ := id hit
      rw [← z, hol] at ho; cases ho; rw [hcl] at hc; exact absurd (Value.type.inj hc) (by decide)
    have hea : e ≠ a := fun z => by
      have he' := he
      unfold IsEnum at he'
      rw [z, hol] at he'; rw [Option.some.inj he'] at hcl; exact absurd (Value.type.inj hcl) (by decide)
    have D := draws_rt (prog := X.prog) (w := X.w) (A := X.A.in1) (I.ok.hd hc) it a hai its.toArray (by rw [List.size_toArray, ← rv.length]; exact hz)
    have hel : e < s.heap.objs.size := Heap.lt_size he
    have hil : it < s.heap.objs.size := by obtain ⟨_, q, _⟩ := hit; exact Heap.lt_size q
    rw [← hsz] at hit
    refine wpAny_pyNext_enum_itemD D he ⟨by omega, hit, p⟩ (by omega) hne (by simp [hne, hea]) fun u h' tk hu ho hit' hT hsz' hk => ?_
    refine ⟨_, rfl, wpAny_letOwnedTupleGo_enum (s := { s with heap := h', toks := tk + 1 }) ho fun h'' he' sb => ?_⟩
    have hT2 : h''.get? s.heap.objs.size = some { cls := .type "tuple", data := .seq #[.int i tk, u] } := (sb.2 _ (Nat.ne_of_gt hel)).trans hT
    have hix : n - 1 - i < xs.length := by omega
    have hx : xs[n - 1 - i]? = some xs[n - 1 - i] := List.getElem?_eq_getElem hix
    obtain ⟨u', hu', ru⟩ := rv.get hx
    have eu : u' = u := by
      rw [hsz] at hu
      have hu2 : its[n - 1 - i]? = some u := by simpa using hu
      rw [hu'] at hu2; exact Option.some.inj hu2
    subst eu
    have new : ObjOk X.prog X.w (upd H s.heap.objs.size (.tup [.int (i : Nat), xs[n - 1 - i]])) h'' s.heap.objs.size (.tup [.int (i : Nat), xs[n - 1 - i]]) :=
      ⟨by show 2 ≤ sizeLine; decide, [.int i tk, u'], .cons ⟨_, rfl⟩ (.cons ru .nil), ⟨_, hT2, rfl, _, rfl⟩⟩
    have I1 : L2.Inv X pins σ (upd H s.heap.objs.size (.tup [.int (i : Nat), xs[n - 1 - i]])) { s with heap := h'', toks := tk + 1 } :=
      I.turnedNew (ch := [e, it]) (fun b ob hb q => (sb.2 b (fun z => hb (by simp [z]))).trans (hk b ob (fun z => hb (by simp [z])) (fun z => hb (by simp [z])) q)) hf (Nat.le_refl _) new
    refine ⟨.ref s.heap.objs.size, _, I1, rfl, ⟨_, _, rfl, I.hok.fresh (Nat.le_refl _), rfl, fun ys hy => by rw [I.tuple_inj hy hq]; exact hx⟩, ⟨by omega, ⟨u', ?_⟩, ?_, hne⟩, fun b hb => ?_⟩
    · have e1 : ((i + 1 : Nat) : Int) = (i : Int) + 1 := by omega
      rw [e1]; exact he'
    · have h3 := hit'.2.1
      rw [hsz] at h3
      exact h3.at fun o q => (sb.2 it (Ne.symm hne)).trans q
    · have hb' : b < s.heap.objs.size := by
        have e' : b = e ∨ b = it := by simpa using hb
        rcases e' with z | z
        · rw [z]; exact hel
        · rw [z]; exact hil
      rw [upd_ne (Nat.ne_of_lt hb')]
      exact (hf b hb).1
  done := by
    intro X hP hw hK hc i pins s σ H E I hf st hg
    subst hP hw hK
    obtain ⟨hin, ⟨old, he⟩, hit, hne⟩ := st
    obtain ⟨rfl, xs, hq, hn⟩ := hg
    obtain ⟨its, rv, p, hz⟩ := I.tuple hq
    have hl := rv.length
    have hsz : its.toArray.size = i := by rw [List.size_toArray]; omega
    obtain ⟨ol, hol, hcl, _⟩ := id p
    have hai : a ≠ it := fun z => by
      obtain ⟨o, ho, hc, _⟩ := id hit
      rw [← z, hol] at ho; cases ho; rw [hcl] at hc; exact absurd (Value.type.inj hc) (by decide)
    have D := draws_rt (prog := X.prog) (w := X.w) (A := X.A.in1) (I.ok.hd hc) it a hai its.toArray (by rw [List.size_toArray, ← rv.length]; exact hz)
    obtain ⟨f0, f1, f2, f3, f4, f5⟩ := hf it (by simp)
    have hst : (fun j (h : Heap) => j ≤ its.toArray.size ∧ RT.IsRt h it a ((its.toArray.size : Int) - 1 - (j : Int)) ∧ IsTup h a its.toArray) its.toArray.size s.heap := by
      refine ⟨Nat.le_refl _, ?_, p⟩
      rw [hsz]
      exact hit
    exact wpAny_pyNext_enum_endD D he hst fun h' eb => ⟨rfl, I.turned (t' := s.toks) (fun b o hb q => eb b o hb q) f0 f1 f3 f4 f5⟩
  self := fun A i s Q E st h => let ⟨_, ⟨_, he⟩, _⟩ := st; wpAny_pyIter_enum he h
theorem walk_rtE {K : PySem.W.Frag} {a : Addr} {xs : List V} : Walk (ItvTE K a xs.length) xs.length (fun H => SqT K H a xs) (fun i H v H' => ∃ T x, v = .ref T ∧ H T = none ∧ H' = upd H T (.tup [.int (i : Nat), x]) ∧ xs[xs.length - 1 - i]? = some x) :=
  ⟨fun i _ hi q => ⟨hi, xs, q, rfl⟩, fun _ q => ⟨rfl, xs, q, rfl⟩, fun _ _ _ _ _ q y => let ⟨T, x, h1, h2, h3, h4⟩ := y; ⟨T, x, h1, h2, h3, h4 xs q⟩⟩

/-- enumerate(reversed(x)), x a list or a tuple -/
def iRevE (K : PySem.W.Frag) (te : TE) : TI := fun σ H R => te σ H fun v H1 => ∃ (a : Addr) (xs : List V), v = .ref a ∧ ((SqL K H1 a xs ∧ R (ItvE K a xs.length) H1) ∨ (SqT K H1 a xs ∧ R (ItvTE K a xs.length) H1))
theorem pi_revE {X : Cx} {e : Expr} {te : TE} {p pos p2 pos2 tpos : Pos} {elts : List Expr} {kk : Nat} (hg : Gl X "reversed") (hm : X.mg "reversed" = none) (hg2 : Gl X "enumerate") (hm2 : X.mg "enumerate" = none) (he : PE X e te) (hs : starEach [e] X.env = (false, eval e X.env) :: starEach [] X.env := by rfl)
    (hs2 : starEach [.Call (.Name "reversed" p) [e] [] pos] X.env = (false, eval (.Call (.Name "reversed" p) [e] [] pos) X.env) :: starEach [] X.env := by rfl) :
    PI X (.Tuple elts kk tpos) (.Call (.Name "enumerate" p2) [.Call (.Name "reversed" p) [e] [] pos] [] pos2) (iRevE X.K te) := by
  refine ⟨fun pins s σ H R I h => ?_⟩
  refine Call_ (ld_blt I hg2 hm2 boot_enumerate (PyProof.Rows.callWith_type1 (args_cons (Call_ (ld_blt I hg hm PyProof.Rows.boot_reversed (PyProof.Rows.callWith_type1 (args_cons (thn (he.run pins s σ H _ I h) fun u s1 ⟨v, H1, I1, r1, q1⟩ => args_nil ?_) hs) hs rfl))) hs2) hs2 rfl))
  obtain ⟨a, xs, ev, q⟩ := q1
  subst ev
  obtain rfl : u = Value.ref a := r1
  have two : ∀ b ∈ [s1.heap.objs.size + 1, s1.heap.objs.size], s1.heap.objs.size ≤ b := fun b hb => by
    have e' : b = s1.heap.objs.size + 1 ∨ b = s1.heap.objs.size := by simpa using hb
    rcases e' with z | z
    · rw [z]; exact Nat.le_add_right _ _
    · rw [z]; exact Nat.le_refl _
  rcases q with ⟨hq, q⟩ | ⟨hq, q⟩
  · obtain ⟨its, rv, p', hz⟩ := I1.list hq
    have hl := rv.length
    refine call_reversed_list p'.isList (args_nil ?_)
    have hit : (s1.heap.push (revObj a (((its.toArray.size : Nat) : Int) - 1))).IsRevIter s1.heap.objs.size a (((its.toArray.size : Nat) : Int) - 1) := ⟨_, Heap.get?_push_size _ rfl, rfl, rfl⟩
    refine call_enum_it (H := fun h => h.IsRevIter s1.heap.objs.size a (((its.toArray.size : Nat) : Int) - 1)) (fun prog w A E s Q h1 h2 => wpAny_pyIter_revIter h1 h2) hit ?_
    have e2 : ((s1.heap.push (revObj a (((its.toArray.size : Nat) : Int) - 1))).objs.size : Nat) = s1.heap.objs.size + 1 := Heap.size_push ..
    have hE := Heap.get?_push_size (s1.heap.push (revObj a (((its.toArray.size : Nat) : Int) - 1))) (o := { cls := .type "enumerate", data := .fields #[.none, .bool false, .ref s1.heap.objs.size, rawInt 0, .none, .none] }) rfl
    refine wpAny_pyIter_enum (e := (s1.heap.push (revObj a (((its.toArray.size : Nat) : Int) - 1))).objs.size) (it := s1.heap.objs.size) (i := 0) (old := .none) hE ?_
    rw [e2] at hE ⊢
    refine ⟨s1.heap.objs.size + 1, [s1.heap.objs.size + 1, s1.heap.objs.size], _, _, H1, rfl, I1.kept (t' := s1.toks) fun b o e => Heap.get?_push_of_some _ (Heap.get?_push_of_some _ e), turn_revE a (s1.heap.objs.size + 1) s1.heap.objs.size xs.length, ⟨Nat.zero_le _, ⟨.none, hE⟩, ?_, Nat.succ_ne_self _⟩, fun b hb => ?_, q⟩
    · have e1 : ((its.toArray.size : Nat) : Int) - 1 = (xs.length : Int) - 1 - ((0 : Nat) : Int) := by simp only [List.size_toArray]; omega
      rw [← e1]
      exact hit.at fun o q => Heap.get?_push_of_some _ q
    · have hle := two b hb
      exact I1.fpOk hle (I1.hok.fresh hle)
  · obtain ⟨its, rv, p', hz⟩ := I1.tuple hq
    have hl := rv.length
    have hn := line63
    refine RT.call_reversed_tup p' (fun A E Q k => len_tuple p' (by simp only [List.size_toArray] <;> omega) k) (args_nil ?_)
    have hit : RT.IsRt (s1.heap.push (RT.rtObj a (((its.toArray.size : Nat) : Int) - 1))) s1.heap.objs.size a (((its.toArray.size : Nat) : Int) - 1) := ⟨_, Heap.get?_push_size _ rfl, rfl, rfl⟩
    refine call_enum_it (H := fun h => RT.IsRt h s1.heap.objs.size a (((its.toArray.size : Nat) : Int) - 1)) (fun prog w A E s Q h1 h2 => RT.iter_rt h1 h2) hit ?_
    have e2 : ((s1.heap.push (RT.rtObj a (((its.toArray.size : Nat) : Int) - 1))).objs.size : Nat) = s1.heap.objs.size + 1 := Heap.size_push ..
    have hE := Heap.get?_push_size (s1.heap.push (RT.rtObj a (((its.toArray.size : Nat) : Int) - 1))) (o := { cls := .type "enumerate", data := .fields #[.none, .bool false, .ref s1.heap.objs.size, rawInt 0, .none, .none] }) rfl
    refine wpAny_pyIter_enum (e := (s1.heap.push (RT.rtObj a (((its.toArray.size : Nat) : Int) - 1))).objs.size) (it := s1.heap.objs.size) (i := 0) (old := .none) hE ?_
    rw [e2] at hE ⊢
    refine ⟨s1.heap.objs.size + 1, [s1.heap.objs.size + 1, s1.heap.objs.size], _, _, H1, rfl, I1.kept (t' := s1.toks + 1 + 1) fun b o e => Heap.get?_push_of_some _ (Heap.get?_push_of_some _ e), turn_rtE a (s1.heap.objs.size + 1) s1.heap.objs.size xs.length, ⟨Nat.zero_le _, ⟨.none, hE⟩, ?_, Nat.succ_ne_self _⟩, fun b hb => ?_, q⟩
    · have e1 : ((its.toArray.size : Nat) : Int) - 1 = (xs.length : Int) - 1 - ((0 : Nat) : Int) := by simp only [List.size_toArray]; omega
      rw [← e1]
      exact hit.at fun o q => Heap.get?_push_of_some _ q
    · have hle := two b hb
      exact I1.fpOk hle (I1.hok.fresh hle)
end Sh
set_option Elab.async false
set_option linter.all false
set_option maxRecDepth 100000
set_option maxHeartbeats 1000000
namespace Sh
open PySem PySem.Spec PyProof.Rows L2
section
variable {X : Cx} {c : Cc} {e a b ei tg : Expr} {pos p : Pos}
/-! ### and, or as values; chains -/
def xAndV (f g : EX) : EX := fun S h => andThen (f S h) fun r h1 => match truR r h1 with
  | some true => g S h1
  | some false => some (.ok r h1)
  | none => none
def xOrV (f g : EX) : EX := fun S h => andThen (f S h) fun r h1 => match truR r h1 with
  | some false => g S h1
  | some true => some (.ok r h1)
  | none => none
theorem ce_and {rest : List Expr} {f g : EX} (ha : CE X c a f) (hb : CE X c (.BoolOp .And (b :: rest) pos) g) : CE X c (.BoolOp .And (a :: b :: rest) pos) (xAndV f g) := by
  refine pe_weak (pe_andT ha hb) fun σ H Q q => ?_
  obtain ⟨G, ρ, S, h, s, e⟩ := q
  refine ⟨G, ρ, S, h, s, e.bind (rel := RV (c.p X.K)) fun r h1 ρ1 H1 v n1 rv e1 => ?_⟩
  cases ht : truR r h1 with
  | none => rw [ht] at e1; exact e1.elim
  | some k =>
    rw [ht] at e1
    refine ⟨k, tru_of n1.hr rv ht, ?_⟩
    cases k with
    | true => exact iteT ⟨G, ρ1, S, h1, s.nx n1, e1.back s.hr n1⟩
    | false => exact iteF (e1 ρ1 H1 v n1 rv)
theorem ce_or {rest : List Expr} {f g : EX} (ha : CE X c a f) (hb : CE X c (.BoolOp .Or (b :: rest) pos) g) : CE X c (.BoolOp .Or (a :: b :: rest) pos) (xOrV f g) := by
  refine pe_weak (pe_orT ha hb) fun σ H Q q => ?_
  obtain ⟨G, ρ, S, h, s, e⟩ := q
  refine ⟨G, ρ, S, h, s, e.bind (rel := RV (c.p X.K)) fun r h1 ρ1 H1 v n1 rv e1 => ?_⟩
  cases ht : truR r h1 with
  | none => rw [ht] at e1; exact e1.elim
  | some k =>
    rw [ht] at e1
    refine ⟨k, tru_of n1.hr rv ht, ?_⟩
    cases k with
    | true => exact iteT (e1 ρ1 H1 v n1 rv)
    | false => exact iteF ⟨G, ρ1, S, h1, s.nx n1, e1.back s.hr n1⟩
theorem ce_and1 {f : EX} (ha : CE X c a f) : CE X c (.BoolOp .And [a] pos) f := pe_one ha
theorem ce_or1 {f : EX} (ha : CE X c a f) : CE X c (.BoolOp .Or [a] pos) f := pe_one ha
def xChain (g g' : P2f) (fa fb fc : EX) : EX := fun S h => andThen (fa S h) fun a h1 => andThen (fb S h1) fun b h2 => match g a b h2 with
  | some (.d (.bl true)) => andThen (fc S h2) fun d h3 => lift (g' b d h3) h3
  | some (.d (.bl false)) => some (.ok (.d (.bl false)) h2)
  | _ => none
theorem tChain_of {r r' : R2} {g g' : P2f} {fa fb fc : EX} (hp : P2 X c r g) (hp' : P2 X c r' g') (σ : L2.St) (H : Hp) (Q : VK) (q : tE X.K c (xChain g g' fa fb fc) σ H Q) : tChain r r' (tE X.K c fa) (tE X.K c fb) (tE X.K c fc) σ H Q := by
  obtain ⟨G, ρ, S, h, s, e⟩ := q
  refine ⟨G, ρ, S, h, s, e.bind (rel := RV (c.p X.K)) fun a h1 ρ1 H1 x n1 rx e1 => ?_⟩
  refine ⟨G, ρ1, S, h1, s.nx n1, (e1.back s.hr n1).bind (rel := RV (c.p X.K)) fun b h2 ρ2 H2 y n2 ry e2 => ?_⟩
  have rx2 := rx.nx n2 n1.hr
  have go : ∀ (k : Bool), g a b h2 = some (.d (.bl k)) → (∀ H3, Nx (c.p X.K) ρ2 H2 ρ2 h2 H3 → (if k = true then tE X.K c fc σ H3 (fun w' H4 => r' y w' H4 Q) else Q (.bl false) H3)) → r x y H2 fun z H3 => ∃ k, z = .bl k ∧ (if k = true then tE X.K c fc σ H3 (fun w' H4 => r' y w' H4 Q) else Q (.bl false) H3) := fun k hk hq => by
    refine hp ρ2 h2 H2 _ _ x y a b _ n2.hr n2.tb rx2 ry ?_
    rw [hk]
    intro H3 v n3 rv
    cases rv
    exact ⟨k, rfl, hq H3 n3⟩
  have s2 := s.nx (n1.trans n2)
  cases hg : g a b h2 with
  | none => rw [hg] at e2; exact e2.elim
  | some z =>
    rw [hg] at e2
    cases z with
    | d z =>
      cases z with
      | bl k =>
        refine go k hg fun H3 n3 => ?_
        cases k with
        | true =>
          refine iteT ⟨G, ρ2, S, h2, s2.nx n3, ?_⟩
          have n123 := n2.trans n3
          refine (e2.back n1.hr n123).bind (rel := RV (c.p X.K)) fun d h4 ρ4 H4 w n4 rw4 e4 => ?_
          exact hp' ρ4 h4 H4 _ _ y w b d Q n4.hr n4.tb ((ry.nx n3 n2.hr).nx n4 n3.hr) rw4 (e4.later n4 fun _ _ _ _ z => z.back n4 n3.hr).fin
        | false => exact iteF (e2 ρ2 H3 (.bl false) (n2.trans n3) (.bl false))
      | _ => exact e2.elim
    | _ => exact e2.elim
theorem ce_chain {op op' : CmpOp} {r r' : R2} {g g' : P2f} {d : Expr} {fa fb fc : EX} (ho : OpR X (compareOp op) r) (ho' : OpR X (compareOp op') r') (hp : P2 X c r g) (hp' : P2 X c r' g') (ha : CE X c a fa) (hb : CE X c b fb) (hc : CE X c d fc)
    (hm : lastMarks [op, op'] [b, d] = false := by with_unfolding_all rfl) : CE X c (.Compare a [op, op'] [b, d] pos) (xChain g g' fa fb fc) :=
  pe_weak (pe_chain ho ho' ha hb hc hm) (tChain_of hp hp')
theorem ct_chain {op op' : CmpOp} {r r' : R2} {g g' : P2f} {d : Expr} {fa fb fc : EX} (ho : OpR X (compareOp op) r) (ho' : OpR X (compareOp op') r') (hp : P2 X c r g) (hp' : P2 X c r' g') (ha : CE X c a fa) (hb : CE X c b fb) (hc : CE X c d fc)
    (hm : lastMarks [op, op'] [b, d] = false := by with_unfolding_all rfl) : CT X c (.Compare a [op, op'] [b, d] pos) (xTest (xChain g g' fa fb fc)) := by
  refine pt_weak (pt_chain ho ho' ha hb hc hm) fun σ H Q q => ?_
  obtain ⟨G, ρ, S, h, s, e⟩ := q
  refine tChain_of hp hp' σ H _ ⟨G, ρ, S, h, s, ?_⟩
  refine e.bind (rel := RV (c.p X.K)) fun r h1 ρ1 H1 x n1 rx e1 => ?_
  cases r with
  | d x =>
    cases x with
    | bl b => cases rx; exact ⟨b, rfl, e1 ρ1 H1 b n1 rfl⟩
    | _ => exact e1.elim
  | _ => exact e1.elim
/-! ### several names at once -/
def sPar2 (i j : Nat) (f : AX) : SX := fun S h => thenS S (f S h) fun rs h1 => match rs with
  | [.d a, .d b] => some (.nx ((S.set i (.d a)).set j (.d b)) h1)
  | _ => none
theorem cs_par2 {i j : Nat} {x y : Str} {fa : AX} {px py pt : Pos} {kt k2 pt2} (hc : X.calm = true) (hN : X.N.Nodup) (hi : X.N[i]? = some x) (hj : X.N[j]? = some y) (hij : i ≠ j)
    (hx : X.env.scope.names.lookup x = some .local) (hy : X.env.scope.names.lookup y = some .local) (ha : CA X c [a, b] fa)
    (hw : swappedStores [.Tuple [.Name x px, .Name y py] kt pt] (.Tuple [a, b] k2 pt2) X.env = pure (some [x, y]))
    (hs : swapsWithSole [.Tuple [.Name x px, .Name y py] kt pt] (.Tuple [a, b] k2 pt2) pos.line X.env = pure false := by rfl) :
    CS X c (.Assign [.Tuple [.Name x px, .Name y py] kt pt] (.Tuple [a, b] k2 pt2) pos) (sPar2 i j fa) := by
  refine ps_weak (ps_par hc hN hi hj hij hx hy ha hw hs) fun D σ H q => ?_
  obtain ⟨G, ρ, S, h, s, e⟩ := q
  refine ⟨G, ρ, S, h, s, Sd.ex s (.refl s.hr s.tb) e (rel := RVs (c.p X.K)) fun rs h1 ρ1 H1 vs n1 rv e1 => ?_⟩
  have key : ∃ a b, rs = [.d a, .d b] := by
    match rs, e1 with
    | [.d a, .d b], _ => exact ⟨a, b, rfl⟩
  obtain ⟨a, b, rfl⟩ := key
  cases rv with
  | cons q1 t =>
    cases t with
    | cons q2 t =>
      cases t
      have s1 := s.nx n1
      have s2 := s1.put (.refl s1.hr s1.tb) (r := .d a) (i := i) q1 rfl
      have s3 := s2.put (.refl s2.hr s2.tb) (r := .d b) (i := j) q2 rfl
      exact ⟨_, _, rfl, e1 G ρ1 _ H1 (fun _ m => m) (n1.lt s.hr) s3⟩
def sPar3 (i j l : Nat) (f : AX) : SX := fun S h => thenS S (f S h) fun rs h1 => match rs with
  | [.d a, .d b, .d d] => some (.nx (((S.set i (.d a)).set j (.d b)).set l (.d d)) h1)
  | _ => none
theorem cs_par3 {i j l : Nat} {x y z : Str} {d : Expr} {fa : AX} {px py pz pt : Pos} {kt k2 pt2} (hc : X.calm = true) (hN : X.N.Nodup) (hi : X.N[i]? = some x) (hj : X.N[j]? = some y) (hl : X.N[l]? = some z) (hij : i ≠ j) (hil : i ≠ l) (hjl : j ≠ l)
    (hx : X.env.scope.names.lookup x = some .local) (hy : X.env.scope.names.lookup y = some .local) (hz : X.env.scope.names.lookup z = some .local) (ha : CA X c [a, b, d] fa)
    (hw : swappedStores [.Tuple [.Name x px, .Name y py, .Name z pz] kt pt] (.Tuple [a, b, d] k2 pt2) X.env = pure (some [x, y, z]))
    (hs : swapsWithSole [.Tuple [.Name x px, .Name y py, .Name z pz] kt pt] (.Tuple [a, b, d] k2 pt2) pos.line X.env = pure false := by rfl) :
    CS X c (.Assign [.Tuple [.Name x px, .Name y py, .Name z pz] kt pt] (.Tuple [a, b, d] k2 pt2) pos) (sPar3 i j l fa) := by
  refine ps_weak (ps_par3 hc hN hi hj hl hij hil hjl hx hy hz ha hw hs) fun D σ H q => ?_
  obtain ⟨G, ρ, S, h, s, e⟩ := q
  refine ⟨G, ρ, S, h, s, Sd.ex s (.refl s.hr s.tb) e (rel := RVs (c.p X.K)) fun rs h1 ρ1 H1 vs n1 rv e1 => ?_⟩
  have key : ∃ a b d, rs = [.d a, .d b, .d d] := by
    match rs, e1 with
    | [.d a, .d b, .d d], _ => exact ⟨a, b, d, rfl⟩
  obtain ⟨a, b, d, rfl⟩ := key
  cases rv with
  | cons q1 t =>
    cases t with
    | cons q2 t =>
      cases t with
      | cons q3 t =>
        cases t
        have s1 := s.nx n1
        have s2 := s1.put (.refl s1.hr s1.tb) (r := .d a) (i := i) q1 rfl
        have s3 := s2.put (.refl s2.hr s2.tb) (r := .d b) (i := j) q2 rfl
        have s4 := s3.put (.refl s3.hr s3.tb) (r := .d d) (i := l) q3 rfl
        exact ⟨_, _, _, rfl, e1 G ρ1 _ H1 (fun _ m => m) (n1.lt s.hr) s4⟩
/-- x = y = e -/
def sAsg2 (g1 g2 : TGx) (f : EX) : SX := fun S h => thenS S (f S h) fun r h1 => match r with
  | .d d => (match g1 d S with
    | some S1 => (match g2 d S1 with
      | some S2 => some (.nx S2 h1)
      | none => none)
    | none => none)
  | _ => none
theorem cs_asg2 {t1 t2 : Expr} {ts us : List Nat} {g1 g2 : TGx} {f : EX} (he : CE X c e f) (h1 : CG X c t1 ts g1) (h2 : CG X c t2 us g2) (ha : (assignEach [t1, t2] X.env).map (·.2) = [assign t1 X.env, assign t2 X.env] := by rfl) (hw : swappedStores [t1, t2] e X.env = pure none := by rfl) :
    CS X c (.Assign [t1, t2] e pos) (sAsg2 g1 g2 f) := by
  refine ps_weak (ps_asg2 he h1 h2 ha hw) fun D σ H q => ?_
  obtain ⟨G, ρ, S, h, s, e⟩ := q
  refine ⟨G, ρ, S, h, s, Sd.ex s (.refl s.hr s.tb) e (rel := RV (c.p X.K)) fun v h1 ρ1 H1 vv n1 rv e1 => ?_⟩
  cases v with
  | d d =>
    simp only at e1
    refine ⟨G, ρ1, S, h1, d, s.nx n1, rv, ?_⟩
    cases hg : g1 d S with
    | none => rw [hg] at e1; exact e1
    | some S1 =>
      rw [hg] at e1
      simp only at e1
      refine fun σ1 _ _ s1 => ⟨G, ρ1, S1, h1, d, s1, rv, ?_⟩
      cases hg2 : g2 d S1 with
      | none => rw [hg2] at e1; exact e1
      | some S2 => rw [hg2] at e1; exact fun σ2 _ _ s2 => e1 G _ _ _ (fun _ m => m) (n1.lt s.hr) s2
  | _ => exact e1.elim
/-! ### a new container becomes a shared object -/
def toO : Cn → Option O
  | .lst xs => some (.lst xs)
  | .dct kd => some (.dct kd)
  | .fz _ => none
def xShare (f : EX) : EX := fun S h => andThen (f S h) fun r h1 => match r with
  | .new k => (match toO k with
    | some o => some (.ok (.d (.ref h1.length)) (h1 ++ [o]))
    | none => none)
  | _ => none
theorem Nx.share {p : Pm} {ρ ρ1 : List Addr} {h1 : Hs} {H H1 : Hp} {a : Addr} {k : Cn} {o : O} (n : Nx p ρ H ρ1 h1 H1) (z : H a = none) (na : a ∉ ρ1) (m : CM p.K ρ1 H1 a k) (e : toO k = some o) : Nx p ρ H (ρ1 ++ [a]) (h1 ++ [o]) H1 := by
  have up : ∀ {vs : List V} {ds : List D}, DVs p.K ρ1 H1 vs ds → DVs p.K (ρ1 ++ [a]) H1 vs ds := fun q => q.mono (fun _ _ z => z) fun j b z => pre_get (List.prefix_append _ _) z
  have om : ∀ {b : Addr} {x : O}, OM p ρ1 H1 b x → OM p (ρ1 ++ [a]) H1 b x := fun {b x} q => by
    cases x with
    | lst ds => obtain ⟨vs, e, r⟩ := q; exact ⟨vs, e, up r⟩
    | dct kd => obtain ⟨vs, e, r1, r2⟩ := q; exact ⟨vs, e, r1, up r2⟩
    | ins c fs => obtain ⟨dx, gs, e, r1, r2⟩ := q; exact ⟨dx, gs, e, r1, up r2⟩
  refine ⟨n.pre.trans (List.prefix_append _ _), ⟨by rw [List.length_append, List.length_append, n.hr.len]; rfl, ?_, fun j b x hj hx => ?_⟩, n.fr, fun b hb => ?_, n.tk, n.tb⟩
  · rw [List.nodup_append]
    exact ⟨n.hr.nd, by simp, fun x hx y hy => by rw [List.mem_singleton.mp hy]; exact fun z => na (z ▸ hx)⟩
  · by_cases hlt : j < ρ1.length
    · rw [List.getElem?_append_left hlt] at hj
      rw [List.getElem?_append_left (by rw [← n.hr.len]; exact hlt)] at hx
      exact om (n.hr.ob j b x hj hx)
    · have hj' := (List.getElem?_eq_some_iff.mp hj).1
      rw [List.length_append, List.length_singleton] at hj'
      have ej : j = ρ1.length := by omega
      subst ej
      rw [List.getElem?_append_right (Nat.le_refl _), Nat.sub_self] at hj
      rw [List.getElem?_append_right (by rw [n.hr.len]; exact Nat.le_refl _), n.hr.len, Nat.sub_self] at hx
      simp only [List.getElem?_cons_zero, Option.some.injEq] at hj hx
      subst hj hx
      cases k with
      | lst ds => cases e; obtain ⟨vs, e, r⟩ := m; exact ⟨vs, e, up r⟩
      | dct kd => cases e; obtain ⟨vs, e, r1, r2⟩ := m; exact ⟨vs, e, r1, up r2⟩
      | fz ds => cases e
  · rcases List.mem_append.mp hb with hb | hb
    · exact n.nw b hb
    · rw [List.mem_singleton.mp hb]; exact .inr z
theorem ce_share {f : EX} (he : CE X c e f) : CE X c e (xShare f) := by
  refine pe_weak he fun σ H Q q => ?_
  obtain ⟨G, ρ, S, h, s, e⟩ := q
  refine ⟨G, ρ, S, h, s, e.bind (rel := RV (c.p X.K)) fun r h1 ρ1 H1 v n1 rv e1 => ?_⟩
  cases r with
  | new k =>
    simp only at e1
    obtain ⟨a, rfl, z, na, m⟩ := rv
    cases ho : toO k with
    | none => rw [ho] at e1; exact e1.elim
    | some o =>
      rw [ho] at e1
      refine e1 (ρ1 ++ [a]) H1 _ (n1.share z na m ho) (.ref ?_)
      rw [List.getElem?_append_right (by rw [n1.hr.len]; exact Nat.le_refl _), n1.hr.len, Nat.sub_self]
      rfl
  | _ => exact e1.elim
/-! ### enumerate(reversed(x)) -/
def pairD : Nat → List D → List D
  | _, [] => []
  | i, d :: ds => .tup [.int i, d] :: pairD (i + 1) ds
theorem pairD_length : ∀ (k : Nat) (ds : List D), (pairD k ds).length = ds.length
  | _, [] => rfl
  | k, d :: ds => by simp only [pairD, List.length_cons, pairD_length (k + 1) ds]
theorem pairD_get : ∀ (k i : Nat) (ds : List D) (d : D), ds[i]? = some d → (pairD k ds)[i]? = some (.tup [.int ((k + i : Nat) : Int), d])
  | _, _, [], _, e => by simp at e
  | k, 0, d' :: ds, d, e => by
    simp at e; subst e
    rfl
  | k, i + 1, d' :: ds, d, e => by
    have ih := pairD_get (k + 1) i ds d (by simpa using e)
    simp only [pairD, List.getElem?_cons_succ]
    rw [ih]
    have : k + 1 + i = k + (i + 1) := by omega
    rw [this]
/-- a list or a tuple as a source -/
def SrcR (p : Pm) (fz : Addr → HO → Prop) (ρ : List Addr) (H : Hp) (v : V) (ds : List D) : Prop := ∃ (a : Addr) (vs : List V) (supp : List (Addr × HO)), v = .ref a ∧ DVs p.K ρ H vs ds ∧ (∀ q ∈ supp, H q.1 = some q.2 ∧ NoTbl q.2 ∧ q.1 ∉ ρ ∧ fz q.1 q.2) ∧
  ((SqL p.K H a vs ∧ ∀ H', (∀ q ∈ supp, H' q.1 = some q.2) → SqL p.K H' a vs) ∨ (SqT p.K H a vs ∧ ∀ H', (∀ q ∈ supp, H' q.1 = some q.2) → SqT p.K H' a vs))
theorem src_lst {p : Pm} {fz : Addr → HO → Prop} {ρ : List Addr} {H : Hp} {a : Addr} {vs : List V} {ds : List D} (hs : H a = some (.lst vs)) (na : a ∉ ρ) (r : DVs p.K ρ H vs ds) (hf : fz a (.lst vs)) : SrcR p fz ρ H (.ref a) ds :=
  ⟨a, vs, [(a, .lst vs)], rfl, r, fun q m => by rw [List.mem_singleton.mp m]; exact ⟨hs, (by intro ps z; cases z), na, hf⟩, .inl ⟨SqL.of hs, fun H' hq => SqL.of (hq _ (List.mem_singleton.mpr rfl))⟩⟩
theorem src_fz {p : Pm} {fz : Addr → HO → Prop} {ρ : List Addr} {H : Hp} {kn : Addr → Prop} {a : Addr} {ds : List D} (q : BR p ρ H kn a (.fz ds)) (hf : ∀ o vs, fz a (.frz o (.lst vs))) : SrcR p fz ρ H (.ref a) ds := by
  obtain ⟨vs, r, k | ⟨⟨o, k⟩, na, _⟩⟩ := q
  · exact ⟨a, vs, [], rfl, r, fun _ m => absurd m (by simp), .inl ⟨.inr k, fun _ _ => .inr k⟩⟩
  · exact ⟨a, vs, [(a, .frz o (.lst vs))], rfl, r, fun q m => by rw [List.mem_singleton.mp m]; exact ⟨k, (by intro ps z; cases z), na, hf o vs⟩, .inl ⟨.inl (.inr ⟨o, k⟩), fun H' hq => .inl (.inr ⟨o, hq _ (List.mem_singleton.mpr rfl)⟩)⟩⟩
theorem src_tup {p : Pm} {fz : Addr → HO → Prop} {ρ : List Addr} {h : Hs} {H : Hp} {a : Addr} {vs : List V} {ds : List D} (hr : HR p ρ h H) (hs : SqT p.K H a vs) (r : DVs p.K ρ H vs ds) (hf : ∀ o, ¬ MutO o → fz a o) : SrcR p fz ρ H (.ref a) ds := by
  rcases hs with (k | ⟨o, k⟩) | k
  · exact ⟨a, vs, [(a, .tup vs)], rfl, r, fun q m => by rw [List.mem_singleton.mp m]; exact ⟨k, (by intro ps z; cases z), rd_not (hr := hr) (u := .tup vs) (o := .tup vs) k (fun z => z), hf _ (fun z => z)⟩, .inr ⟨.inl (.inl k), fun H' hq => .inl (.inl (hq _ (List.mem_singleton.mpr rfl)))⟩⟩
  · exact ⟨a, vs, [(a, .frz o (.tup vs))], rfl, r, fun q m => by rw [List.mem_singleton.mp m]; exact ⟨k, (by intro ps z; cases z), rd_not (hr := hr) (u := .tup vs) (o := .frz o (.tup vs)) k (fun z => z), hf _ (fun z => z)⟩, .inr ⟨.inl (.inr ⟨o, k⟩), fun H' hq => .inl (.inr ⟨o, hq _ (List.mem_singleton.mpr rfl)⟩)⟩⟩
  · exact ⟨a, vs, [], rfl, r, fun _ m => absurd m (by simp), .inr ⟨.inr k, fun _ _ => .inr k⟩⟩
def tSrc (K : PySem.W.Frag) (c : Cc) (fz : FZ) (f : IX) : TE := fun σ H Q => ∃ G ρ S h, Stt (c.p K) c.ρ0 c.H0 G ρ S h σ H ∧
  Ed (c.p K) (fun cls d H' => c.W cls d σ H') ρ H (f S h) (fun ρ' Hb H' v ds => SrcR (c.p K) (fz G Hb) ρ' H' v ds) Q
abbrev CSrc (X : Cx) (c : Cc) (fz : FZ) (e : Expr) (f : IX) : Prop := PE X e (tSrc X.K c fz f)
/-- of an expression -/
def seqE : R → Option (List D)
  | .d (.tup xs) => some xs
  | .new (.lst xs) => some xs
  | .bor (.fz xs) => some xs
  | _ => none
theorem csrc_S {f : EX} (he : CE X c e f) : CSrc X c (fzS c) e (iE seqE f) := by
  refine pe_weak he fun σ H R q => ?_
  obtain ⟨G, ρ, S, h, s, e⟩ := q
  refine ⟨G, ρ, S, h, s, e.bind (rel := RV (c.p X.K)) fun r h1 ρ1 H1 v n1 rv e1 => ?_⟩
  cases hi : seqE r with
  | none => rw [hi] at e1; exact e1.elim
  | some ds =>
    rw [hi] at e1
    refine e1 ρ1 H1 v n1 ?_
    cases r with
    | d x =>
      cases x with
      | tup xs =>
        cases hi
        obtain ⟨a, vs, rfl, h2, r2⟩ := tup_of rv rfl
        exact src_tup n1.hr h2 r2 fun _ z => .inr (.inl z)
      | _ => cases hi
    | new kk =>
      cases kk with
      | lst xs =>
        cases hi
        obtain ⟨a, rfl, z, na, vs, h2, r2⟩ := rv
        exact src_lst h2 na r2 (.inl z)
      | _ => cases hi
    | bor kk =>
      cases kk with
      | fz xs =>
        cases hi
        obtain ⟨a, rfl, br⟩ := rv
        exact src_fz br fun _ _ => .inr (.inl fun z => z)
      | _ => cases hi
/-- of a variable that is not the def's own list -/
def seqV : Option Sl → Option (List D)
  | some (.d (.tup xs)) => some xs
  | some (.bor (.lst xs)) => some xs
  | some (.bor (.fz xs)) => some xs
  | _ => none
def iVs (i : Nat) : IX := fun S h => lift (seqV S[i]?) h
theorem csrc_V {i : Nat} {x : Str} (hN : X.N[i]? = some x := by rfl) (hv : Vis X.env.scope x := by first | exact Or.inl rfl | exact Or.inr (Or.inl rfl) | exact Or.inr (Or.inr rfl)) (hd : (x == ("__debug__" : Str)) = false := by decide)
    (hcd : (x == ("__classdict__" : Str)) = false := by decide) : CSrc X c (fzS c) (.Name x pos) (iVs i) := by
  refine pe_weak (pe_var hN hv hd hcd) fun σ H R q => ?_
  obtain ⟨G, ρ, S, h, s, e⟩ := q
  unfold iVs at e
  cases hS : S[i]? with
  | none => rw [hS] at e; exact e.elim
  | some sl =>
    rw [hS] at e
    obtain ⟨o, ho, v⟩ := s.sl i sl hS
    have n0 : Nx (c.p X.K) ρ H ρ h H := .refl s.hr s.tb
    cases sl with
    | d x =>
      obtain ⟨w, rfl, r⟩ := v
      cases x with
      | tup xs =>
        obtain ⟨a, vs, rfl, h2, r2⟩ := tup_of (p := c.p X.K) (ρ := ρ) (Hb := H) (H := H) (r := .d (.tup xs)) r rfl
        exact ⟨_, ho, e ρ H _ n0 (src_tup s.hr h2 r2 fun _ z => .inr (.inl z))⟩
      | _ => exact e.elim
    | bor k =>
      cases k with
      | lst xs =>
        obtain ⟨a, rfl, vs, r2, h2, na, kn⟩ := v
        exact ⟨_, ho, e ρ H _ n0 (src_lst h2 na r2 (.inr (.inr kn)))⟩
      | fz xs =>
        obtain ⟨a, rfl, br⟩ := v
        exact ⟨_, ho, e ρ H _ n0 (src_fz br fun _ _ => .inr (.inl fun z => z))⟩
      | dct xs => exact e.elim
    | _ => exact e.elim
def iRevEn (f : IX) : IX := fun S h => andThen (f S h) fun ds h1 => some (.ok (pairD 0 ds.reverse) h1)
theorem itR_revE {p : Pm} {fz : Addr → HO → Prop} {ρ : List Addr} {H : Hp} {a : Addr} {vs : List V} {ds : List D} {J : It} {Gd : Hp → Prop} (supp : List (Addr × HO)) (w : Walk J vs.length Gd (fun i H v H' => ∃ T x, v = .ref T ∧ H T = none ∧ H' = upd H T (.tup [.int (i : Nat), x]) ∧ vs[vs.length - 1 - i]? = some x))
    (r : DVs p.K ρ H vs ds) (hs : ∀ q ∈ supp, H q.1 = some q.2 ∧ NoTbl q.2 ∧ q.1 ∉ ρ ∧ fz q.1 q.2) (hg : ∀ H', (∀ q ∈ supp, H' q.1 = some q.2) → Gd H') : ItR p fz ρ H J (pairD 0 ds.reverse) := by
  have hl := r.length
  have el : (pairD 0 ds.reverse).length = vs.length := by rw [pairD_length, List.length_reverse, hl]
  refine ⟨Gd, _, supp, by rw [el]; exact w, hs, hg, fun i ρ1 h1 H1 x H1' l _ hr tb hi y => ?_⟩
  obtain ⟨T, x', rfl, hT, rfl, hx⟩ := y
  rw [el] at hi
  obtain ⟨d, e1, e2⟩ := (l.dvs r).get hx
  have n := Nx.alloc (o := .tup [.int (i : Nat), x']) hr tb hT
  refine ⟨n, .tup [.int ((0 + i : Nat) : Int), d], pairD_get 0 i _ d ?_, .tup (SqT.of upd_same) (.cons ?_ (.cons (n.dv hr e2) .nil))⟩
  · rw [List.getElem?_reverse (by omega), ← hl]
    exact e1
  · rw [Nat.zero_add]; exact .int _
theorem ci_revEn {f : IX} {fz : FZ} {p2 pos2 tpos : Pos} {elts : List Expr} {kk : Nat} (hg : Gl X "reversed") (hm : X.mg "reversed" = none) (hg2 : Gl X "enumerate") (hm2 : X.mg "enumerate" = none) (he : CSrc X c fz e f) (hs : starEach [e] X.env = (false, eval e X.env) :: starEach [] X.env := by rfl)
    (hs2 : starEach [.Call (.Name "reversed" p) [e] [] pos] X.env = (false, eval (.Call (.Name "reversed" p) [e] [] pos) X.env) :: starEach [] X.env := by rfl) :
    CI X c fz (.Tuple elts kk tpos) (.Call (.Name "enumerate" p2) [.Call (.Name "reversed" p) [e] [] pos] [] pos2) (iRevEn f) := by
  refine pi_weak (pi_revE hg hm hg2 hm2 he hs hs2) fun σ H R q => ?_
  obtain ⟨G, ρ, S, h, s, e⟩ := q
  refine ⟨G, ρ, S, h, s, e.bind (rel := fun ρ' Hb H' v ds => SrcR (c.p X.K) (fz G Hb) ρ' H' v ds) fun ds h1 ρ1 H1 v n1 sr e1 => ?_⟩
  obtain ⟨a, vs, supp, rfl, r, hsup, h2⟩ := sr
  refine ⟨a, vs, rfl, ?_⟩
  rcases h2 with ⟨h2, h3⟩ | ⟨h2, h3⟩
  · exact .inl ⟨h2, e1 ρ1 H1 _ n1 (itR_revE (a := a) supp walk_revE r hsup h3)⟩
  · exact .inr ⟨h2, e1 ρ1 H1 _ n1 (itR_revE (a := a) supp walk_rtE r hsup h3)⟩
end
end Sh
set_option Elab.async false
set_option linter.all false
set_option maxRecDepth 100000
set_option maxHeartbeats 1000000
namespace Sh
open PySem PySem.Spec PyProof.Rows L2
/-- the words for the five kinds of trouble -/
structure Five where
  n1 : Str
  n2 : Str
  n3 : Str
  n4 : Str
  n5 : Str
def Five.pick (f : Five) (b1 b2 b3 b4 : Bool) : Str := if b1 then f.n1 else if b2 then f.n2 else if b3 then f.n3 else if b4 then f.n4 else f.n5
/-- a trouble of the class at C is told as nm; CT: the class that is caught, C1 .. C4: those asked for -/
structure ToldC (K : PySem.W.Frag) (CT C1 C2 C3 C4 : Addr) (f : Five) (C : Addr) (nm : Str) : Prop where
  exc : ExcC K C
  exm : PySem.W.exmOne K (.ref C) (.ref CT) = some true
  kit : ∃ b1 b2 b3 b4, PySem.W.kitOne K (.ref C) (.ref C1) = some b1 ∧ PySem.W.kitOne K (.ref C) (.ref C2) = some b2 ∧ PySem.W.kitOne K (.ref C) (.ref C3) = some b3 ∧ PySem.W.kitOne K (.ref C) (.ref C4) = some b4 ∧ nm = f.pick b1 b2 b3 b4
/-- told: the value read, or the trouble's word -/
def TToldS (K : PySem.W.Frag) (CT C1 C2 C3 C4 : Addr) (fv : Five) (spR : Sp) : (XK → Hp → VK → Prop) → Hp → VK → Prop := fun tl H Q =>
  tl (fun cls d H' => ∃ C nm, cls = .ref C ∧ d = none ∧ ToldC K CT C1 C2 C3 C4 fv C nm ∧ ∀ p, H' p = none → Q (.ref p) (upd H' p (.tup [.int 1, .str nm]))) H
    fun v H1 => spR [v] H1 (fun v2 H2 => [V.int 0, v2].length ≤ sizeLine ∧ ∀ p, H2 p = none → Q (.ref p) (upd H2 p (.tup [.int 0, v2]))) fun _ _ _ => False
section
variable {X : Cx}
theorem two_size : 2 ≤ sizeLine := by decide
theorem told_gives2 {Ng : List Str} {x a q rd ct en c1 c2 c3 c4 : Str} {sg : Scope} {g CT C1 C2 C3 C4 fR : Addr} {cdg : Value} {fv : Five} {spR : Sp} {k : Nat} {fdR : FuncData} {psR : List Str}
    {j0 j1 j2 j3 j4 j5 j6 j7 j8 j9 k0 k1 k2 k3 k4 : Nat}
    {p0 p1 p2 p3 p4 p5 p6 p7 q1 q2 q3 r1 r2 r3 r4 r5 r6 r7 r8 r9 s1 s2 s3 s4 s5 s6 s7 s8 s9 t1 t2 t3 t4 t5 t6 t7 t8 t9 u1 u2 u3 u4 u5 u6 u7 u8 u9 : Pos}
    (hr : Room (k + 1) X.A) (hgR : sg.names.lookup rd = some .globalImplicit) (hmR : X.mg rd = some (.ref fR)) (hkR : PySem.W.keepIn X.K (.ref fR) = true) (hbR : Binds X.K fdR psR []) (FR : FnOk X.prog X.w X.K X.mg X.base (L2.CX X.prog X.w) k fR fdR psR spR)
    (hsp : ∀ vs H Q E, spR vs H Q (fun _ _ _ => False) → spR vs H Q E)
    (hgT : sg.names.lookup ct = some .globalImplicit) (hmT : X.mg ct = some (.ref CT)) (hg1 : sg.names.lookup c1 = some .globalImplicit) (hm1 : X.mg c1 = some (.ref C1)) (hg2 : sg.names.lookup c2 = some .globalImplicit) (hm2 : X.mg c2 = some (.ref C2))
    (hg3 : sg.names.lookup c3 = some .globalImplicit) (hm3 : X.mg c3 = some (.ref C3)) (hg4 : sg.names.lookup c4 = some .globalImplicit) (hm4 : X.mg c4 = some (.ref C4)) (hgI : sg.names.lookup ("isinstance" : Str) = some .globalImplicit) (hmI : X.mg "isinstance" = none)
    (hN : Ng = [a, en]) (hnd : Ng.Nodup) (hle : sg.names.lookup en = some .local)
    (d0 : (rd == ("__debug__" : Str)) = false) (d1 : (ct == ("__debug__" : Str)) = false) (d2 : (c1 == ("__debug__" : Str)) = false) (d3 : (c2 == ("__debug__" : Str)) = false) (d4 : (c3 == ("__debug__" : Str)) = false) (d5 : (c4 == ("__debug__" : Str)) = false) (d6 : (en == ("__debug__" : Str)) = false) (d7 : (en == ("__classdict__" : Str)) = false) :
    LamX.GivesTo X Ng x sg g cdg [.Try [.Return (some (.Tuple [.Constant (.int 0) j0 p0, .Call (.Name rd p1) [.Call (.Name a p2) [] [] p3] [] p4] k0 p5)) p6]
      [.ExceptHandler (some (.Name ct p7)) (some en)
        [.If (.Call (.Name "isinstance" q1) [.Name en q2, .Name c1 q3] [] r1) [.Return (some (.Tuple [.Constant (.int 1) j1 r2, .Constant (.str fv.n1) j2 r3] k1 r4)) r5] [] r6,
         .If (.Call (.Name "isinstance" r7) [.Name en r8, .Name c2 r9] [] s1) [.Return (some (.Tuple [.Constant (.int 1) j3 s2, .Constant (.str fv.n2) j4 s3] k2 s4)) s5] [] s6,
         .If (.Call (.Name "isinstance" s7) [.Name en s8, .Name c3 s9] [] t1) [.Return (some (.Tuple [.Constant (.int 1) j5 t2, .Constant (.str fv.n3) j6 t3] k3 t4)) t5] [] t6,
         .Return (some (.Tuple [.Constant (.int 1) j7 t7, .IfExp (.Call (.Name "isinstance" t8) [.Name en t9, .Name c4 u1] [] u2) (.Constant (.str fv.n4) j8 u3) (.Constant (.str fv.n5) j9 u4) u5] k4 u6)) u7] u8] [] [] u9] a q
      (TToldS X.K CT C1 C2 C3 C4 fv spR) := by
  intro f c' s H Q tl act hc h
  subst hN
  let Z : Cx := (cxOf C8.CX0 X.prog X.w X.K X.mg X.base [a, en] x sg g cdg X.A X.stack s H C8.E0).nox
  have hv0 : Vis Z.env.scope en := .inl hle
  have FR' : FnOk X.prog X.w X.K X.mg X.base (L2.CX X.prog X.w) k fR fdR psR (fun vs H Q _ => spR vs H Q fun _ _ _ => False) := FR.imp hsp
  refine ⟨_, pss_one (ps_try_as (X := Z) (i := 1) (n := en) (c := .ref CT)
      (tb := fun W D σ H => ∃ Ech : XK, (∀ cls d σ' H', Ech cls d H' → W cls d σ' H') ∧ σ[0]? = some (some (.ref f)) ∧ H c' = some (LamX.CodeO c' q) ∧ tl Ech H fun v H1 => spR [v] H1 (fun v2 H2 => [V.int 0, v2].length ≤ sizeLine ∧ ∀ p, H2 p = none → D.rt (.ref p) (upd H2 p (.tup [.int 0, v2]))) fun _ _ _ => False)
      (ts := fun a cls d D σ H => ∃ C nm, cls = .ref C ∧ d = none ∧ ToldC X.K CT C1 C2 C3 C4 fv C nm ∧ (1 < σ.length → σ[1]? = some (some (V.ref a))) ∧ ∀ p, H p = none → D.rt (.ref p) (upd H p (.tup [.int 1, .str nm])))
      (Wout := fun _ _ _ _ => False) rfl rfl hnd rfl hle ⟨hgT, d1, .inl hmT⟩ LamX.takes0 (fun W pn xe tk _ => ?_) (fun aE oe cls d pn hz hf => ?_)), ?_⟩
  · refine ⟨fun pins s' σ H' D I h' => ?_⟩
    obtain ⟨Ech, hW, h1, h2, h3⟩ := h'
    have hp := act W pn xe Ech p2 p3 tk hW
    have hq := pss_one (ps_ret (pos := p6) (pe_tup (x1 := k0) (pos := p5) (pa_cons (pe_int (i := 0) (pos := p0) (j := j0)) (pa_cons (pe_callS (X := Z.tr pn xe) (p := p1) (pos := p4) FR' (hr.deeper _) hgR hmR hkR hbR (fun σ => passAt tk σ) (pa_cons hp pa_nil) d0) pa_nil))))
    exact hq.run pins s' σ H' D I ⟨h1, h2, h3⟩
  · refine ⟨fun pins s' σ H' D I h' => ?_⟩
    obtain ⟨C, nm, rfl, rfl, hT, hσ, hk⟩ := h'
    obtain ⟨b1, b2, b3, b4, e1, e2, e3, e4, rfl⟩ := hT.kit
    have hσ := hσ (by rw [I.len]; exact Nat.lt_succ_self 1)
    have isE : ∀ {cN : Str} {CN : Addr} (hgN : sg.names.lookup cN = some .globalImplicit) (hmN : X.mg cN = some (.ref CN)) (dN : (cN == ("__debug__" : Str)) = false) (pa pb pc pd : Pos), PT (Z.suite aE ((aE, oe) :: pn)) (.Call (.Name "isinstance" pa) [.Name en pb, .Name cN pc] [] pd) (_) := fun {cN CN} hgN hmN dN pa pb pc pd =>
      pt_truth (pe_callB (X := Z.suite aE ((aE, oe) :: pn)) (call_isE hT.exc hz hf) hgI hmI boot_isinstance (pa_cons (pe_var (i := 1) rfl hv0 d6 d7) (pa_cons (pe_glob (v := .ref CN) hgN hmN rfl dN) pa_nil))) (fun _ => rfl)
    have hq := pss_cons (ps_if (pos := r6) (isE hg1 hm1 d2 q1 q2 q3 r1) (pss_one (ps_ret (pos := r5) (pe_tup (x1 := k1) (pos := r4) (pa_cons (pe_int (i := 1) (pos := r2) (j := j1)) (pa_cons (pe_str (x := fv.n1) (pos := r3) (j := j2)) pa_nil))))) pss_nil)
      (pss_cons (ps_if (pos := s6) (isE hg2 hm2 d3 r7 r8 r9 s1) (pss_one (ps_ret (pos := s5) (pe_tup (x1 := k2) (pos := s4) (pa_cons (pe_int (i := 1) (pos := s2) (j := j3)) (pa_cons (pe_str (x := fv.n2) (pos := s3) (j := j4)) pa_nil))))) pss_nil)
      (pss_cons (ps_if (pos := t6) (isE hg3 hm3 d4 s7 s8 s9 t1) (pss_one (ps_ret (pos := t5) (pe_tup (x1 := k3) (pos := t4) (pa_cons (pe_int (i := 1) (pos := t2) (j := j5)) (pa_cons (pe_str (x := fv.n3) (pos := t3) (j := j6)) pa_nil))))) pss_nil)
      (pss_one (ps_ret (pos := u7) (pe_tup (x1 := k4) (pos := u6) (pa_cons (pe_int (i := 1) (pos := t7) (j := j7)) (pa_cons (pe_ifExp (pos := u5) (isE hg4 hm4 d5 t8 t9 u1 u2) (pe_str (x := fv.n4) (pos := u3) (j := j8)) (pe_str (x := fv.n5) (pos := u4) (j := j9))) pa_nil)))))))
    have two : ∀ nm : Str, [V.int 1, V.str nm].length ≤ sizeLine := fun _ => two_size
    refine hq.run pins s' σ H' D I ?_
    refine ⟨_, hσ, .ref C1, .ref C1, b1, rfl, fun u r => r, e1, b1, rfl, ?_⟩
    cases b1 with
    | true => exact iteT ⟨two _, hk⟩
    | false =>
      refine iteF ⟨_, hσ, .ref C2, .ref C2, b2, rfl, fun u r => r, e2, b2, rfl, ?_⟩
      cases b2 with
      | true => exact iteT ⟨two _, hk⟩
      | false =>
        refine iteF ⟨_, hσ, .ref C3, .ref C3, b3, rfl, fun u r => r, e3, b3, rfl, ?_⟩
        cases b3 with
        | true => exact iteT ⟨two _, hk⟩
        | false =>
          refine iteF ⟨_, hσ, .ref C4, .ref C4, b4, rfl, fun u r => r, e4, b4, rfl, ?_⟩
          cases b4 with
          | true => exact iteT ⟨two _, hk⟩
          | false => exact iteF ⟨two _, hk⟩
  · refine ⟨_, fun cls d σ' H' hE => ?_, rfl, hc, h⟩
    obtain ⟨C, nm, rfl, rfl, hT, hk⟩ := hE
    refine ⟨true, hT.exm, fun _ aE _ => ⟨C, nm, rfl, rfl, hT, fun hl => ?_, hk⟩, fun z => by cases z⟩
    rw [List.length_set] at hl
    exact List.getElem?_set_self hl
end
end Sh
set_option Elab.async false
set_option linter.all false
set_option maxRecDepth 100000
set_option maxHeartbeats 2000000
namespace Sh
open PySem PySem.Spec PyProof.Rows L2 LamX
section
variable {X : Cx} {pins : List (Addr × Obj)} {σ : L2.St} {H : Hp} {s : Shared}
/-- a lambda is made: the tables' step, the new function f -/
theorem lam_new {T : List (Addr × Str)} {c P : Addr} {params : Arguments} {body : Expr} {scope : Scope} {pos : Pos} {E : Value → Shared → Prop} {Q : Value → Shared → Prop} (I : L2.Inv X pins σ H s) (TB : TabB X.base X.mg c P) (hcode : X.env.code = .ref c)
    (hm : (P, X.env.qual ++ "<lambda>") ∈ T) (hu : ∀ p ∈ T, p.1 = P → p.2 = X.env.qual ++ "<lambda>") (hT : Tabs T H) (hdef : defaultsOf params X.env = ([], [])) (hfree : ∀ y ∈ scope.names, y.2 = .free → ∃ c, X.env.cells.lookup y.1 = some c)
    (h : ∀ (f c' : Addr) (pm ctv : Value) (H1 : Hp) (s' : Shared), L2.Inv X pins σ H1 s' → ExtN H H1 → Tabs T H1 → (∀ b ps, H b = some (.tbl ps) → ∃ qs, H1 b = some (.tbl qs)) →
      s'.heap.get? f = some (PySem.W.kla_obj "<lambda>" (X.env.qual ++ "<lambda>") params body scope (cloFrom X.env.cells scope.names []) pm c' ctv) → H1 f = none → f ∉ frs X.stack → H1 c' = some (CodeO c' (X.env.qual ++ "<lambda>")) → Q (.ref f) s') :
    wpAny (model X.prog X.w) X.A (eval (.Lambda params body scope pos) X.env) Q E s := by
  obtain ⟨ps, hP, ht, ha⟩ := hT _ hm
  have hP : H P = some (.tbl ps) := hP
  have hP' : s.heap.get? P = some { cls := .none, data := .fields ps } := I.hok P _ hP
  have bP : s.heap.BuiltinsAt X.mg P := TB.bm.keeps I.bk
  refine PySem.W.kla_eval hdef ?_
  -- the function's object comes last, behind the step
  have last : ∀ {H1 : Hp} {h' : Heap} {tk : Nat} {c' : Addr} {ctv : Value}, TabStep X pins σ T P H H1 s { s with heap := h', toks := tk } → H1 c' = some (CodeO c' (X.env.qual ++ "<lambda>")) →
      Q (.ref h'.objs.size) { s with heap := h'.push (PySem.W.kla_obj "<lambda>" (X.env.qual ++ "<lambda>") params body scope (cloFrom X.env.cells scope.names []) ((X.mg "__name__").getD .none) c' ctv), toks := tk } := fun {H1 h' tk c' ctv} st hc => by
    have I1 := st.inv.kept (t' := tk) (h' := h'.push (PySem.W.kla_obj "<lambda>" (X.env.qual ++ "<lambda>") params body scope (cloFrom X.env.cells scope.names []) ((X.mg "__name__").getD .none) c' ctv)) fun b o e => Heap.get?_push_of_some _ e
    refine h _ c' ((X.mg "__name__").getD .none) ctv H1 _ I1 st.ext st.tabs st.tbl (Heap.get?_push_size _ rfl) (st.inv.hok.fresh (Nat.le_refl _)) (fun z => ?_) hc
    rcases List.mem_cons.mp (st.inv.stkSub _ z) with e | e
    · have h1 := st.inv.lt
      rw [← e] at h1
      exact Nat.lt_irrefl _ h1
    · exact st.inv.nofs (Nat.le_refl _) e
  cases hc : codeAmong pos ps.toList with
  | none =>
    refine PySem.W.kla_makeFunction (mg := X.mg) (c := c) (P := P) (ps := ps) (closure_ok hfree) I.ok.glob (I.mod.glob.keeps I.bk) hcode (TB.code.keeps I.bk) hP' ht hc TB.gP bP fun c' ctv h' tk hx hge hlt hrec htb => ?_
    obtain ⟨c2, oc, vs, t, e2, hoc, hd, hv⟩ := hrec
    cases e2
    obtain ⟨H1, st, hcc⟩ := TabStep.grow (tk := tk) I hT hm hu hP hx htb hge hlt ⟨oc, vs, t, hoc, hd, hv⟩
    exact last st hcc
  | some cv =>
    obtain ⟨c', rfl, hco⟩ := ha pos cv hc
    refine PySem.W.kla_makeFunctionHit (mg := X.mg) (c := c) (P := P) (ps := ps) (closure_ok hfree) I.ok.glob (I.mod.glob.keeps I.bk) hcode (TB.code.keeps I.bk) hP' ht hc bP fun ctv h' tk hx hsz => ?_
    exact last ⟨I.kept (t' := tk) hx, ExtN.refl H, hT, fun b o _ e => hx b o e, fun _ _ n => n, fun _ ps e => ⟨ps, e⟩, hsz⟩ hco
end
def tLam3 (T : List (Addr × Str)) (TT : (XK → Hp → VK → Prop) → Hp → VK → Prop) (t : XK → TE) : TE := fun σ H Q => Tabs T H ∧ ∀ H1, ExtN H H1 → Tabs T H1 → (∀ b ps, H b = some (.tbl ps) → ∃ qs, H1 b = some (.tbl qs)) → TT (fun E H' Q' => t E σ H' Q') H1 Q
/-- a def of one parameter that takes a lambda and calls it -/
structure Taker (X : Cx) (x a : Str) (g : Addr) (fd : FuncData) (Ng : List Str) (bg : List Stmt) (sg : Scope) (cdv : Value) : Prop where
  look : ∃ (pg : Arguments) (dV kV doc pm ct oc : Value) (an od : Option Addr) (osl : Array (Option Value)), fd = PySem.W.fnOf x x pg bg sg dV kV doc pm an cdv ct ∧ X.K.lookup g = some ⟨oc, od, .func fd, osl⟩
  code : PySem.W.codeIn X.K cdv x = true
  mg : X.mg x = some (.ref g)
  keep : PySem.W.keepIn X.K (.ref g) = true
  binds : L2.Binds X.K fd [a] []
  scope : FnScope Ng [a] sg
  first : Ng[0]? = some a
  vis : Vis sg a
section
variable {X : Cx}
/-- x(lambda: body) -/
theorem pe_lam {T : List (Addr × Str)} {TT : (XK → Hp → VK → Prop) → Hp → VK → Prop} {x a : Str} {g c P : Addr} {k : Nat} {fd : FuncData} {bg : List Stmt} {sg : Scope} {cdv : Value} {Ng : List Str} {params : Arguments} {body : Expr} {scope : Scope} {t : XK → TE} {p lpos pos : Pos}
    (hg : Gl X x) (tr : Taker X x a g fd Ng bg sg cdv) (hG : GivesTo X Ng x sg g cdv bg a (X.env.qual ++ "<lambda>") TT)
    (TB : TabB X.base X.mg c P) (hcode : X.env.code = .ref c) (hmT : (P, X.env.qual ++ "<lambda>") ∈ T) (hu : ∀ p ∈ T, p.1 = P → p.2 = X.env.qual ++ "<lambda>") (hr : Room (k + 2) X.A) (L : LamS X.env.scope scope) (hdef : defaultsOf params X.env = ([], []))
    (hbind : ∀ (q : Str) (cl : List (Str × Addr)) (pm cv ctv : Value), bindArgs (PySem.W.kla_fn "<lambda>" q params body scope cl pm cv ctv) ⟨[], []⟩ = pure [])
    (hbody : ∀ (A : Around) (outer : List Env) (s : Shared) (H : Hp) (E : XK) (f c' : Addr), Room k (A.deeper (lamEnv X scope s.heap.objs.size f c')) → PE (lamCx X A outer s H E scope f c') body (t E))
    (hdb : (x == ("__debug__" : Str)) = false := by decide) (hd : (a == ("__debug__" : Str)) = false := by decide) (hcd : (a == ("__classdict__" : Str)) = false := by decide) :
    PE X (.Call (.Name x p) [.Lambda params body scope lpos] [] pos) (tLam3 T TT t) := by
  refine ⟨fun pins s σ H Q I h => ?_⟩
  obtain ⟨hT, h⟩ := h
  obtain ⟨pg, dV, kV, doc, pm, ct, oc, an, od, osl, rfl, lk⟩ := tr.look
  refine wpAny_Call_Name_kw (ld_glob I hg tr.mg ?_ hdb)
  refine PySem.W.callWith_K (h₀ := X.base) I.ok.mod.kin tr.keep ?_ (by rfl) (by rfl)
  show wpAny _ _ (spliced ((false, eval (.Lambda params body scope lpos) X.env) :: backTo pos (starEach [] X.env))) _ _ s
  refine Calls.spliced_cons (lam_new I TB hcode hmT hu hT hdef (L.has I.ok) fun f c' pm' ctv H1 s' I1 eN T1 tk1 hf hfn hfr hco => Calls.spliced_nil ⟨I1.kIn, ?_⟩)
  have rc : codeAny (model X.prog X.w) X.A (.call (.ref g) ⟨[.ref f], []⟩) (CR C8.CX0 X.stack X.prog X.w H1 s' Q C8.E0) s' := by
    refine run_ofS (N := Ng) (ps := [a]) (us := [.ref f]) (vs := [.ref f]) lk tr.code tr.scope hr I1.env0 ?_ (.cons rfl .nil) rfl fun hr' => ?_
    · exact tr.binds s' [.ref f] I1.kIn rfl
    obtain ⟨t', ht', hq'⟩ := hG f c' s' H1 Q (fun E H' Q' => t E σ H' Q') (fun W pn xe E p1 p2 tk hW => pe_act (i := 0) I1 L hf hfn hfr (hbind _ _ _ _ _) tk hW hr' (fun A outer s H hr2 => hbody A outer s H E f c' hr2) tr.first tr.vis hd hcd) hco (h H1 eN T1 tk1)
    exact ⟨t', ht'.nox, hq'⟩
  refine wpAny_call (codeAny_mono rc fun r s2 hq => ?_)
  cases r with
  | error e => exact (show False from hq).elim
  | ok fl =>
    cases fl with
    | ret u => exact I1.after hq
    | _ => exact False.elim hq
end
/-! ### told -/
def xTold (rd : Fd) (nmF : Str → Option Str) (fb : EX) : EX := fun S h => match fb S h with
  | some (.ok r h1) => (match rd [r] h1 with
    | some (.ok (.d v) h2) => some (.ok (.d (.tup [.int 0, v])) h2)
    | _ => none)
  | some (.exc cn h1) => (match nmF cn with
    | some nm => some (.ok (.d (.tup [.int 1, .str nm])) h1)
    | none => none)
  | none => none
section
variable {X : Cx} {c : Cc}
theorem ce_told {x a : Str} {g co P CT C1 C2 C3 C4 : Addr} {k : Nat} {fd : FuncData} {bg : List Stmt} {sg : Scope} {cdv : Value} {Ng : List Str} {params : Arguments} {body : Expr} {scope : Scope} {p lpos pos : Pos} {fv : Five} {rd : Fd} {nmF : Str → Option Str} {fb : EX}
    (hg : Gl X x) (tr : Taker X x a g fd Ng bg sg cdv) (hG : GivesTo X Ng x sg g cdv bg a (X.env.qual ++ "<lambda>") (TToldS X.K CT C1 C2 C3 C4 fv (spF (c.p X.K) 1 rd))) (hnm : ∀ cn nm, nmF cn = some nm → ToldC X.K CT C1 C2 C3 C4 fv (c.cad cn) nm)
    (TB : TabB X.base X.mg co P) (hcode : X.env.code = .ref co) (hmT : (P, X.env.qual ++ "<lambda>") ∈ c.T) (hu : ∀ p ∈ c.T, p.1 = P → p.2 = X.env.qual ++ "<lambda>") (hr : Room (k + 2) X.A) (L : LamS X.env.scope scope) (hdef : defaultsOf params X.env = ([], []))
    (hbind : ∀ (q : Str) (cl : List (Str × Addr)) (pm cv ctv : Value), bindArgs (PySem.W.kla_fn "<lambda>" q params body scope cl pm cv ctv) ⟨[], []⟩ = pure [])
    (hbody : ∀ (A : Around) (outer : List Env) (s : Shared) (H : Hp) (E : XK) (f c' : Addr), Room k (A.deeper (lamEnv X scope s.heap.objs.size f c')) → CE (lamCx X A outer s H E scope f c') { c with W := fun cls d _ H' => E cls d H' } body fb)
    (hdb : (x == ("__debug__" : Str)) = false := by decide) (hd : (a == ("__debug__" : Str)) = false := by decide) (hcd : (a == ("__classdict__" : Str)) = false := by decide) :
    CE X c (.Call (.Name x p) [.Lambda params body scope lpos] [] pos) (xTold rd nmF fb) := by
  refine pe_weak (pe_lam (t := fun E => tE X.K { c with W := fun cls d _ H' => E cls d H' } fb) hg tr hG TB hcode hmT hu hr L hdef hbind hbody hdb hd hcd) fun σ H Q q => ?_
  obtain ⟨G, ρ, S, h, s, e⟩ := q
  refine ⟨s.tb, fun H1 hE hT1 htk => ?_⟩
  have n1 : Nx (c.p X.K) ρ H ρ h H1 := .extN s.hr hE hT1 htk
  refine ⟨G, ρ, S, h, s.nx n1, ?_⟩
  unfold xTold at e
  cases hf : fb S h with
  | none => rw [hf] at e; exact e
  | some r =>
    rw [hf] at e
    cases r with
    | ok r h1 =>
      simp only at e
      intro ρ2 H2 v n2 rv
      refine ⟨rfl, ρ2, h1, H1, [r], n2.hr, n2.tb, .cons rv .nil, ?_⟩
      have n12 := n1.trans n2
      cases hrd : rd [r] h1 with
      | none => rw [hrd] at e; exact e.elim
      | some z =>
        rw [hrd] at e
        cases z with
        | exc cn h2 => exact e.elim
        | ok r2 h2 =>
          cases r2 with
          | d d =>
            intro ρ3 H3 v2 n3 rv2
            have n123 := n12.trans n3
            exact ⟨two_size, fun z hz => new_tup n123.hr n123.tb (.cons (.int 0) (.cons rv2 .nil)) hz (e.finE n123 s.hr)⟩
          | _ => exact e.elim
    | exc cn h1 =>
      simp only at e
      intro ρ2 H2 n2
      have n12 := n1.trans n2
      cases hn : nmF cn with
      | none => rw [hn] at e; exact e.elim
      | some nm =>
        rw [hn] at e
        exact ⟨_, nm, rfl, rfl, hnm cn nm hn, fun z hz => new_tup n12.hr n12.tb (.cons (.int 1) (.cons (.str nm) .nil)) hz (e.finE n12 s.hr)⟩
end
end Sh
set_option Elab.async false
set_option linter.all false
set_option maxRecDepth 100000
set_option maxHeartbeats 2000000
namespace Sh
open PySem PySem.Spec PyProof.Rows L2
/-! ### data of the written part -/
mutual
def kB (K : PySem.W.Frag) : D → Value → Bool
  | .non, .none => true
  | .bl b, .bool c => b == c
  | .int i, .int j _ => i == j
  | .str x, .str y _ => x == y
  | .tup ds, .ref a => (match K.lookup a with
    | some ⟨.type c, _, .seq its _, _⟩ => decide (c = "tuple") && (decide (its.size ≤ sizeLine) && kBs K ds its.toList)
    | _ => false)
  | _, _ => false
def kBs (K : PySem.W.Frag) : List D → List Value → Bool
  | [], [] => true
  | d :: ds, v :: vs => kB K d v && kBs K ds vs
  | _, _ => false
end
theorem ba2 {a b : Bool} (h : (a && b) = true) : a = true ∧ b = true := Bool.and_eq_true_iff.mp h
mutual
theorem kB_ok {K : PySem.W.Frag} : ∀ {d : D} {v : Value}, kB K d v = true → ∃ x, RelV x v ∧ ∀ ρ H, DV K ρ H x d
  | .non, v, h => by cases v <;> first | exact ⟨.non, rfl, fun _ _ => .non⟩ | cases h
  | .bl b, v, h => by
    cases v with
    | bool c => exact ⟨.bl b, by rw [show b = c from by simpa [kB] using h]; rfl, fun _ _ => .bl b⟩
    | _ => cases h
  | .int i, v, h => by
    cases v with
    | int j t => exact ⟨.int i, by rw [show i = j from by simpa [kB] using h]; exact ⟨t, rfl⟩, fun _ _ => .int i⟩
    | _ => cases h
  | .str x, v, h => by
    cases v with
    | str y t => exact ⟨.str x, by rw [show x = y from by simpa [kB] using h]; exact ⟨t, rfl⟩, fun _ _ => .str x⟩
    | _ => cases h
  | .ty n, v, h => by cases v <;> cases h
  | .ref j, v, h => by cases v <;> cases h
  | .tup ds, v, h => by
    cases v with
    | ref a =>
      unfold kB at h
      cases e : K.lookup a with
      | none => rw [e] at h; cases h
      | some o =>
        rw [e] at h
        obtain ⟨oc, od, dt, sl⟩ := o
        cases oc with
        | type c =>
          cases dt with
          | seq its n =>
            obtain ⟨h1, h2⟩ := ba2 h
            obtain ⟨h3, h4⟩ := ba2 h2
            obtain ⟨vs, r, q⟩ := kBs_ok h4
            have hc : c = "tuple" := of_decide_eq_true h1
            subst hc
            exact ⟨.ref a, rfl, fun ρ H => .tup (.inr ⟨_, its, n, e, rfl, rfl, of_decide_eq_true h3, r⟩) (q ρ H)⟩
          | _ => cases h
        | _ => cases dt <;> cases h
    | _ => cases h
theorem kBs_ok {K : PySem.W.Frag} : ∀ {ds : List D} {vs : List Value}, kBs K ds vs = true → ∃ xs, Vals xs vs ∧ ∀ ρ H, DVs K ρ H xs ds
  | [], [], _ => ⟨[], .nil, fun _ _ => .nil⟩
  | [], _ :: _, h => by cases h
  | _ :: _, [], h => by cases h
  | d :: ds, v :: vs, h => by
    unfold kBs at h
    obtain ⟨h1, h2⟩ := ba2 h
    obtain ⟨x, r, q⟩ := kB_ok h1
    obtain ⟨xs, rs, qs⟩ := kBs_ok h2
    exact ⟨x :: xs, .cons r rs, fun ρ H => .cons (q ρ H) (qs ρ H)⟩
end
/-- a name of the module, data -/
def kcB (K : PySem.W.Frag) (x : Str) (d : D) : Bool := match PySem.W.nsIn K mainGlobals x with
  | some (some u) => kB K d u
  | _ => false
/-- x stands for d in the module -/
def KC (K : PySem.W.Frag) (mg : Str → Option Value) (x : Str) (d : D) : Prop := ∃ u, mg x = some u ∧ kB K d u = true
theorem kc_ok {K : PySem.W.Frag} {h : Heap} {mg : Str → Option Value} (X : K.In h) (G : h.Ns mainGlobals mg) {x : Str} {d : D} (c : kcB K x d = true) : KC K mg x d := by
  unfold kcB at c
  cases e : PySem.W.nsIn K mainGlobals x with
  | none => rw [e] at c; cases c
  | some r =>
    rw [e] at c
    cases r with
    | none => cases c
    | some u => exact ⟨u, PySem.W.mg_of X G e, c⟩
section
variable {X : Cx} {c : Cc} {e : Expr} {pos p : Pos} {x : Str}
theorem ce_globD {d : D} (hg : Gl X x) (h : KC X.K X.mg x d) (hd : (x == ("__debug__" : Str)) = false := by decide) : CE X c (.Name x pos) (xC d) := by
  obtain ⟨u, hm, hk⟩ := h
  obtain ⟨v, r, q⟩ := kB_ok hk
  exact ce_glob hg hm r q hd
end
/-! ### a dict of the module -/
abbrev KTb := List (Str × D)
def lookT : KTb → Str → Option D
  | [], _ => none
  | (k, d) :: t, z => if k = z then some d else lookT t z
structure KTbl (K : PySem.W.Frag) (w : World) (a : Addr) (t : KTb) : Prop where
  dic : ∃ es n, KDict K w a es n
  get : ∀ z, match lookT t z with
    | some d => ∃ u, PySem.W.nsIn K a z = some (some u) ∧ kB K d u = true
    | none => PySem.W.nsIn K a z = some none
def ktB (K : PySem.W.Frag) (a : Addr) (t : KTb) : Bool := t.all fun q => match PySem.W.nsIn K a q.1 with
  | some (some u) => (match lookT t q.1 with
    | some d => kB K d u
    | none => false)
  | _ => false
theorem lookT_mem : ∀ {t : KTb} {z : Str} {d : D}, lookT t z = some d → z ∈ t.map (·.1)
  | (k, d) :: t, z, e, h => by
    unfold lookT at h
    split at h
    · rename_i q; rw [← q]; exact List.mem_cons_self
    · exact List.mem_cons_of_mem _ (lookT_mem h)
theorem lookT_none : ∀ {t : KTb} {z : Str}, lookT t z = none → z ∉ t.map (·.1)
  | [], _, _, m => by cases m
  | (k, d) :: t, z, h, m => by
    unfold lookT at h
    split at h
    · cases h
    · rename_i q
      rcases List.mem_cons.mp m with m | m
      · exact q m.symm
      · exact lookT_none h m
theorem keyOf_isStr {P : Params} {z : Str} : ∀ {l : List DictEntry} {ks : List Str}, l.map He.keyOf = He.keysIn P ks → z ∉ ks → l.find? (fun e => e.key.isStr z) = none ∧ l.any (fun e => e.refKey) = false
  | [], _, _, _ => ⟨rfl, rfl⟩
  | e :: r, [], h, _ => by cases h
  | e :: r, k :: ks, h, m => by
    have h1 : He.keyOf e :: r.map He.keyOf = some (k, PyData.keyHash P k) :: He.keysIn P ks := h
    injection h1 with h2 h3
    obtain ⟨q1, q2⟩ := keyOf_isStr h3 fun z => m (List.mem_cons_of_mem _ z)
    unfold He.keyOf at h2
    split at h2
    · rename_i x t q
      obtain ⟨h5, h6⟩ := Prod.mk.inj (Option.some.inj h2)
      have nx : e.key.isStr z = false := by
        rw [q, PySem.W.isStr_of]
        show (x == z) = false
        rw [h5]
        exact beq_false_of_ne fun w => m (by rw [w]; exact List.mem_cons_self)
      refine ⟨?_, ?_⟩
      · rw [List.find?_cons, nx]; exact q1
      · rw [List.any_cons, q2, Bool.or_false]
        show e.refKey = false
        unfold DictEntry.refKey
        rw [q]
    · cases h2
theorem kt_ok {K : PySem.W.Frag} {w : World} {a : Addr} {t : KTb} (h1 : He.dicW K a = some (He.keysIn w.params (t.map (·.1)))) (h2 : ktB K a t = true) : KTbl K w a t := by
  obtain ⟨es, n, kd⟩ := He.dicW_ok h1
  refine ⟨⟨es, n, kd⟩, fun z => ?_⟩
  cases e : lookT t z with
  | some d =>
    have m := lookT_mem e
    obtain ⟨q, hq, ez⟩ := List.mem_map.mp m
    have h3 := List.all_eq_true.mp h2 q hq
    rw [ez, e] at h3
    simp only
    cases e2 : PySem.W.nsIn K a z with
    | none => rw [e2] at h3; cases h3
    | some r =>
      rw [e2] at h3
      cases r with
      | none => cases h3
      | some u => exact ⟨u, rfl, h3⟩
  | none =>
    have m := lookT_none e
    simp only
    have h3 : es.toList.map He.keyOf = He.keysIn w.params (t.map (·.1)) := by
      have h4 := h1
      unfold He.dicW at h4
      rw [kd.at_] at h4
      simp only [kd.low, decide_true, Bool.not_false, Bool.and_true, Array.isEmpty_empty, Option.some.injEq] at h4
      exact h4
    obtain ⟨q1, q2⟩ := keyOf_isStr h3 m
    unfold PySem.W.nsIn
    rw [kd.at_]
    simp only
    rw [q1]
    simp only [q2, Bool.false_eq_true, if_false]
/-- T.get(e) -/
def xKGet (t : KTb) (fe : EX) : EX := fun S h => andThen (fe S h) fun r h1 => match strOf r with
  | some z => some (.ok (.d ((lookT t z).getD .non)) h1)
  | none => none
/-- T[e], there -/
def gKIx (t : KTb) (r : R) (_ : Hs) : Option R := match strOf r with
  | some z => (match lookT t z with
    | some d => some (.d d)
    | none => none)
  | none => none
section
variable {X : Cx} {c : Cc} {e : Expr} {pos p apos : Pos} {x : Str}
theorem ce_kget {a : Addr} {t : KTb} {fe : EX} (hg : Gl X x) (hm : X.mg x = some (.ref a)) (kt : KTbl X.K X.w a t) (he : CE X c e fe) (m : M1 X (.Name x p) "get" apos e pos) (hd : (x == ("__debug__" : Str)) = false := by decide) :
    CE X c (.Call (.Attribute (.Name x p) "get" apos) [e] [] pos) (xKGet t fe) := by
  refine ⟨fun pins s σ H Q I h => ?_⟩
  obtain ⟨es, n, kd⟩ := kt.dic
  have hmap : s.heap.MapOf (strKind X.prog X.w) a _ := PySem.W.mapOf_K (prog := X.prog) (w := X.w) I.kIn kd.at_ kd.lit
  have ho : PE X (.Name x p) (tC (.ref a)) := pe_glob hg hm rfl hd
  refine wpAny_Call_method m.base m.few m.line PySem.F.plainAttrs_dict PySem.F.slot_dict_get PySem.F.type_dict_get (thn (ho.run pins s σ H (fun v H' => v = .ref a ∧ H' = H) I ⟨rfl, rfl⟩) fun u s1 ⟨y, H1, I1, rx, ex, eH⟩ => ?_)
  subst ex eH
  obtain rfl : u = Value.ref a := rx
  have hmap1 : s1.heap.MapOf (strKind X.prog X.w) a _ := PySem.W.mapOf_K (prog := X.prog) (w := X.w) I1.kIn kd.at_ kd.lit
  refine ⟨hmap1.typeIs, hmap1.noDict, ?_⟩
  rw [m.trees]
  obtain ⟨G, ρ, S, hh, st, ed⟩ := h
  refine Calls.callWith_builtin rfl (Calls.evalArgs_plain (Calls.spliced_cons (thn (he.run pins s1 σ H1 (fun y H2 => ∃ ρ2 h2 z, y = .str z ∧ Nx (c.p X.K) ρ H1 ρ2 h2 H2 ∧ ∀ v, DV X.K ρ2 H2 v ((lookT t z).getD .non) → Q v H2) I1 ⟨G, ρ, S, hh, st, ed.bind (rel := RV (c.p X.K)) fun r h1 ρ1 H1' y n1 ry e1 => ?_⟩) fun iv s2 ⟨y, H2, I2, ry, ρ2, h2, z, ey, n2, q2⟩ => Calls.spliced_nil ?_)))
  · cases hz : strOf r with
    | none => simp only [hz] at e1; exact e1.elim
    | some z =>
      have ey := str_of ry hz
      subst ey
      simp only [hz] at e1
      exact ⟨ρ1, h1, z, rfl, n1, fun v dv => e1 ρ1 H1' v n1 dv⟩
  · subst ey
    obtain ⟨t', rfl⟩ := (show ∃ t', iv = Value.str z t' from ry)
    have hmap2 : s2.heap.MapOf (strKind X.prog X.w) a _ := PySem.W.mapOf_K (prog := X.prog) (w := X.w) I2.kIn kd.at_ kd.lit
    refine call_meetsIn PySem.F.slot_dict_get hmap2.typeIs PySem.F.entry_dict_get (PySem.F.args_dict_get_2 _ _) (meets_dict_get (strKind X.prog X.w) a (strKind_is X.prog X.w z t') kd.low) ⟨_, hmap2, ?_⟩
    have hk := kt.get z
    cases hl : lookT t z with
    | none =>
      rw [hl] at hk q2
      rw [PySem.W.find_K kd.at_ hk]
      exact ⟨.non, H2, I2.tok _, rfl, q2 _ .non⟩
    | some d =>
      rw [hl] at hk q2
      obtain ⟨u, e1, e2⟩ := hk
      rw [PySem.W.find_K kd.at_ e1]
      obtain ⟨v, r, dv⟩ := kB_ok e2
      exact ⟨v, H2, I2.tok _, r, q2 v (dv ρ2 H2)⟩
end
/-! ### d.get(k), d.get(k, x), d a tracked dict -/
def getR (a b : R) (h : Hs) (o : D) : Option D := match dctOf a h, b with
  | some kd, .d x => (match keyD x with
    | some k => some ((lookD kd k).getD o)
    | none => none)
  | _, _ => none
def xGet1 (fo fk : EX) : EX := fun S h => andThen (fo S h) fun a h1 => match dctOf a h1 with
  | some _ => andThen (fk S h1) fun b h2 => lift ((getR a b h2 .non).map R.d) h2
  | none => none
def xGet2 (fo fk fx : EX) : EX := fun S h => andThen (fo S h) fun a h1 => match dctOf a h1 with
  | some _ => andThen (fk S h1) fun b h2 => andThen (fx S h2) fun z h3 => match z with
    | .d z => lift ((getR a b h3 z).map R.d) h3
    | _ => none
  | none => none
theorem getR_of {p : Pm} {ρ : List Addr} {h : Hs} {Ha Hb H : Hp} {x y v : V} {a b : R} {o d : D} (hr : HR p ρ h H) (qa : RV p ρ Ha H x a) (qb : RV p ρ Hb H y b) (qo : DV p.K ρ H v o) (e : getR a b h o = some d) :
    ∃ z w, x = .ref z ∧ DGet H z y w ∧ DV p.K ρ H (w.getD v) d := by
  unfold getR at e
  cases hd : dctOf a h with
  | none => simp only [hd] at e; cases e
  | some kd =>
    cases b with
    | d u =>
      simp only [hd] at e
      cases hk : keyD u with
      | none => rw [hk] at e; cases e
      | some ky =>
        rw [hk] at e
        simp only [Option.some.injEq] at e
        obtain ⟨z, ks, rfl, h1, h2⟩ := dct_of hr qa hd
        have ey := key_of' qb hk
        subst ey
        refine ⟨z, valV ks ky, rfl, DGet.k h1, ?_⟩
        cases hl : lookD kd ky with
        | none =>
          rw [hl] at e
          rw [(look_of ky h2).2 hl, ← e]; exact qo
        | some w =>
          rw [hl] at e
          obtain ⟨v', h3, h4⟩ := (look_of ky h2).1 w hl
          rw [h3, ← e]; exact h4
    | _ => simp only [hd] at e; cases e
theorem isD_of {p : Pm} {ρ : List Addr} {h : Hs} {Ha H : Hp} {x : V} {a : R} {kd : List (Key × D)} (hr : HR p ρ h H) (qa : RV p ρ Ha H x a) (e : dctOf a h = some kd) : ∃ z, x = .ref z ∧ IsD H z := by
  obtain ⟨z, ks, rfl, h1, h2⟩ := dct_of hr qa e
  exact ⟨z, rfl, .inl ⟨ks, .inl h1⟩⟩
section
variable {X : Cx} {c : Cc} {o e f : Expr} {pos p apos : Pos} {x : Str}
theorem ce_get1 {fo fk : EX} (hu : X.A.units + 1 < cLine) (ho : CE X c o fo) (he : CE X c e fk) (m : M1 X o "get" apos e pos) : CE X c (.Call (.Attribute o "get" apos) [e] [] pos) (xGet1 fo fk) := by
  refine pe_weak (pe_dget1 hu ho he m) fun σ H Q q => ?_
  obtain ⟨G, ρ, S, h, s, e⟩ := q
  refine ⟨G, ρ, S, h, s, e.bind (rel := RV (c.p X.K)) fun a h1 ρ1 H1 x n1 rx e1 => ?_⟩
  cases hd : dctOf a h1 with
  | none => simp only [hd] at e1; exact e1.elim
  | some kd =>
    simp only [hd] at e1
    obtain ⟨z, rfl, id⟩ := isD_of n1.hr rx hd
    refine ⟨z, rfl, id, G, ρ1, S, h1, s.nx n1, e1.bindAt n1 (rel := RV (c.p X.K)) fun b h2 ρ2 H2 y n2 ry e2 => ?_⟩
    have n := n1.trans n2
    have ef := (e2.later n fun _ _ _ _ z => z.back n s.hr).fin
    cases hg : getR a b h2 .non with
    | none => rw [hg] at ef; exact ef.elim
    | some d =>
      rw [hg] at ef
      obtain ⟨z2, w, ez, dg, dv⟩ := getR_of n2.hr (rx.nx n2 n1.hr) ry .non hg
      cases ez
      exact ⟨w, dg, fin_d n2.hr n2.tb ef dv⟩
theorem ce_get2 {fo fk fx : EX} (hu : X.A.units + 1 < cLine) (ho : CE X c o fo) (he : CE X c e fk) (hf : CE X c f fx) (m : M2 X o "get" apos e f pos) : CE X c (.Call (.Attribute o "get" apos) [e, f] [] pos) (xGet2 fo fk fx) := by
  refine pe_weak (pe_dget2 hu ho he hf m) fun σ H Q q => ?_
  obtain ⟨G, ρ, S, h, s, e⟩ := q
  refine ⟨G, ρ, S, h, s, e.bind (rel := RV (c.p X.K)) fun a h1 ρ1 H1 x n1 rx e1 => ?_⟩
  cases hd : dctOf a h1 with
  | none => simp only [hd] at e1; exact e1.elim
  | some kd =>
    simp only [hd] at e1
    obtain ⟨z, rfl, id⟩ := isD_of n1.hr rx hd
    refine ⟨z, rfl, id, G, ρ1, S, h1, s.nx n1, e1.bindAt n1 (rel := RV (c.p X.K)) fun b h2 ρ2 H2 y n2 ry e2 => ?_⟩
    have n := n1.trans n2
    refine ⟨G, ρ2, S, h2, s.nx n, e2.bindAt n (rel := RV (c.p X.K)) fun zr h3 ρ3 H3 v n3 rz e3 => ?_⟩
    have nn := n.trans n3
    cases zr with
    | d zd =>
      have ef := (e3.later nn fun _ _ _ _ z => z.back nn s.hr).fin
      cases hg : getR a b h3 zd with
      | none => rw [hg] at ef; exact ef.elim
      | some d =>
        rw [hg] at ef
        obtain ⟨z2, w, ez, dg, dv⟩ := getR_of n3.hr (rx.nx (n2.trans n3) n1.hr) (ry.nx n3 n2.hr) rz hg
        cases ez
        exact ⟨w, dg, fin_d n3.hr n3.tb ef dv⟩
    | _ => exact e3.elim
end
end Sh
set_option Elab.async false
set_option linter.all false
set_option maxRecDepth 100000
set_option maxHeartbeats 4000000
namespace Sh
open PySem PySem.Spec PyProof.Rows
/-! ### len(set(texts)) -/
def dedS (xs : List Str) : List Str := xs.foldl (fun acc x => if acc.any (· == x) = true then acc else acc ++ [x]) []
theorem dedS_snoc (xs : List Str) (x : Str) : dedS (xs ++ [x]) = if (dedS xs).any (· == x) = true then dedS xs else dedS xs ++ [x] := by
  unfold dedS
  rw [List.foldl_append] <;> rfl
theorem dedS_le : ∀ n (xs : List Str), xs.length = n → (dedS xs).length ≤ n
  | 0, xs, h => by rw [List.length_eq_zero_iff.mp h]; exact Nat.le_refl _
  | n + 1, xs, h => by
    have hne : xs ≠ [] := fun z => by rw [z] at h; cases h
    rw [← List.dropLast_concat_getLast hne, dedS_snoc]
    have ih := dedS_le n xs.dropLast (by rw [List.length_dropLast]; omega)
    split
    · omega
    · rw [List.length_append, List.length_singleton]; omega
theorem str_get : ∀ {vs : List Value} {xs : List Str}, StrsAre vs xs → ∀ (i : Nat) (v : Value), vs[i]? = some v → ∃ x t, xs[i]? = some x ∧ v = .str x t
  | _, _, .nil, i, v, h => by simp at h
  | _, _, .cons y t r, 0, v, h => by simp at h; exact ⟨y, t, rfl, h.symm⟩
  | _, _, .cons y t r, i + 1, v, h => by
    obtain ⟨x, t', e1, e2⟩ := str_get r i v (by simpa using h)
    exact ⟨x, t', by simpa using e1, e2⟩
section
variable {P : Program} {w : World} {B : Around} {R : Result → Shared → Prop} {it : Addr} {fp wr : List Addr} {Gn : Array GenState → Array GenState → Prop} {n : Nat} {Pv : Nat → Value → Prop} {St : Nat → Shared → Prop}
/-- the set holds what came up to i -/
abbrev SetUp (P : Program) (w : World) (h : Heap) (z : Addr) (xs : List Str) (i : Nat) : Prop := h.SetOf (PySem.strKind P w) z (fun k => (dedS (xs.take i)).any (· == k)) (dedS (xs.take i)).length
theorem SetUp.at {h h' : Heap} {z : Addr} {xs : List Str} {i : Nat} (q : SetUp P w h z xs i) (k : ∀ o, h.get? z = some o → h'.get? z = some o) : SetUp P w h' z xs i := by
  obtain ⟨o, es, ep, t, ho, r⟩ := q
  exact ⟨o, es, ep, t, k o ho, r⟩
theorem update_texts (W : WalksS P w B.in1 it fp wr Gn n Pv St) (z : Addr) (zf : z ∉ fp) (xs : List Str) (hsz : xs.length = n) (hb : n + 1 < scanBound) (hv : ∀ i v, Pv i v → ∃ x t, xs[i]? = some x ∧ v = .str x t) :
    ∀ (m i : Nat) (s : Shared), n - i = m → i ≤ n → St i s → SetUp P w s.heap z xs i → (∀ s', Moved (z :: wr) Gn s s' → SetUp P w s'.heap z xs n → R (.ok (.ret .none)) s') →
      codeAny (model P w) B (.builtin "set.update.loop" ⟨[.ref z, .ref it], []⟩) R s := by
  have zw : z ∉ wr := fun h => zf (W.sub _ h)
  have sub : ∀ b ∈ wr, b ∈ z :: wr := fun b hb => List.mem_cons_of_mem _ hb
  intro m
  induction m with
  | zero =>
    intro i s hm hi st q fin
    obtain rfl : i = n := by omega
    refine codeAny_builtin PyProof.Rows.F.entry_set_update_loop ?_; rw [Around.under_plainId PyProof.Rows.F.plain_set_update_loop _]
    show wpAny _ B.in1 (pyNext (.ref it) >>= _) _ _ s
    refine wpAny_bind (W.done s _ _ st fun s' mv => ?_)
    show wpAny _ B.in1 (ret Value.none) _ _ s'
    exact wpAny_pure (fin s' (mv.mono sub) (q.at fun o e => mv.heap z o zw e))
  | succ m ih =>
    intro i s hm hi st q fin
    have hlt : i < n := by omega
    refine codeAny_builtin PyProof.Rows.F.entry_set_update_loop ?_; rw [Around.under_plainId PyProof.Rows.F.plain_set_update_loop _]
    show wpAny _ B.in1 (pyNext (.ref it) >>= _) _ _ s
    refine wpAny_bind (W.item i s _ _ hlt st fun v s1 pv st1 mv => ?_)
    obtain ⟨x, t, ex, rfl⟩ := hv i v pv
    have q1 := q.at (h' := s1.heap) fun o e => mv.heap z o zw e
    show wpAny _ B.in1 (holding [Value.str x t] (setAdd z (.str x t)) >>= _) _ _ s1
    refine wpAny_bind (wpAny_holding ?_)
    unfold setAdd
    refine wpAny_holding (wpAny_bind ((PySem.strKind P w).pyHash (k := x) (strKind_is _ _ _ _) ?_))
    have room : (dedS (xs.take i)).length + 1 < scanBound := by
      have := dedS_le _ (xs.take i) rfl
      rw [List.length_take] at this
      omega
    refine wpAny_setAddHashed_of (knd := PySem.strKind P w) (s := { s1 with toks := s1.toks + 1 }) (strKind_is _ _ _ _) rfl q1 room fun h2 sb q2 => ?_
    have et : xs.take (i + 1) = xs.take i ++ [x] := by rw [List.take_succ, ex] <;> rfl
    have q3 : SetUp P w h2 z xs (i + 1) := by
      refine SetOf_congr q2 (fun k => ?_) ?_
      · rw [et, dedS_snoc]
        by_cases hx : (dedS (xs.take i)).any (· == x) = true
        · rw [if_pos hx]
          by_cases e : k = x
          · subst e; rw [hx] <;> simp
          · simp [e]
        · rw [if_neg hx, List.any_append]
          by_cases e : k = x
          · subst e; simp
          · have hb : (x == k) = false := beq_false_of_ne fun z => e z.symm
            simp [hb, e]
      · rw [et, dedS_snoc]
        by_cases hx : (dedS (xs.take i)).any (· == x) = true
        · rw [if_pos hx, if_pos hx]
        · rw [if_neg hx, if_neg hx, List.length_append] <;> rfl
    refine wpAny_pure ⟨plainId_quiet PyProof.Rows.F.plain_set_update_loop _, ih (i + 1) _ (by omega) hlt (W.frame _ s1 _ _ st1 (Nat.le_succ _) fun b hb o e => ?_) q3 fun s' mv2 q4 => ?_⟩
    · rw [sb.2 b fun z => zf (z ▸ hb)]; exact e
    · refine fin s' (Moved.trans W.gtrans ((mv.mono sub).then_heap (Nat.le_succ _) fun b o hb e => ?_) mv2) q4
      rw [sb.2 b fun z => hb (z ▸ List.mem_cons_self)]; exact e
end
section
variable {P : Program} {w : World} {B : Around} {E : Value → Shared → Prop} {s : Shared}

theorem set_of_list {l : Addr} {its : Array Value} {xs : List Str} {Q : Value → Shared → Prop} (hh : B.handled = none) (hl : s.heap.IsList l its) (hi : StrsAre its.toList xs) (hb : its.size + 1 < scanBound)
    (h : ∀ (h' : Heap) (tk : Nat), SetUp P w h' s.heap.objs.size xs its.size → (∀ b o, b < s.heap.objs.size → s.heap.get? b = some o → h'.get? b = some o) → Q (.ref s.heap.objs.size) { s with heap := h', toks := tk }) :
    wpAny (model P w) B (call (.type "set") [.ref l]) Q E s := by
  obtain ⟨cM, tM, mro⟩ := PySem.F.called_set.mro; have made := PySem.F.called_set.made; have subS := PySem.F.called_set.sub
  refine wpAny_call (codeAny_of_tree ?_); show wpAny _ _ (callAny (.type "set") _) _ _ _
  refine wpAny_pure ⟨Code.quiet_builtin _ (by decide +kernel), codeAny_builtin PySem.F.entry_type_call ?_⟩; rw [Around.under_plain (weight_type_call_type "set" [.ref l] []) rfl]
  have n1 := PySem.F.called_set.notType; have n2 := PySem.F.called_set.canCreate; have n3 := PySem.F.typeCall_set_1 (.ref l)
  repeat (any_goals (first | assumption | wp_step))
  refine codeAny_mono (code_set_new_1 (.ref l) (E := E) (Q₁ := fun ob s1 => ∃ led : Bool, ob = .ref s.heap.objs.size ∧ s1 = { s with heap := s.heap.push { cls := .type "set", dict := none, data := .set #[] 0 (.fresh 0 0 led) } }) fun led => ⟨led, rfl, rfl⟩) fun r s1 hr => ?_
  cases r with
  | error e => exact hr
  | ok fl =>
    cases fl with
    | ret ob =>
      obtain ⟨led, rfl, rfl⟩ := hr
      generalize hO : ({ cls := .type "set", dict := none, data := .set #[] 0 (.fresh 0 0 led) } : Obj) = O
      have hS : (s.heap.push O).get? s.heap.objs.size = some O := Heap.get?_push_size _ (by rw [← hO] <;> rfl)
      have hT : Shared.TypeIs { s with heap := s.heap.push O } (.ref s.heap.objs.size) "set" := ⟨_, hS, by rw [← hO] <;> rfl⟩
      have i1 := PySem.F.called_set.init.lookup; have i2 := PySem.F.called_set.init.bind (.ref s.heap.objs.size)
      repeat (any_goals (first | assumption | wp_step))
      refine codeAny_mono (codeAny_call_builtin (R := wants (fun r s2 => r = .none ∧ ∃ h' tk, s2 = { s with heap := h', toks := tk } ∧ SetUp P w h' s.heap.objs.size xs its.size ∧ (∀ b o, b < s.heap.objs.size → s.heap.get? b = some o → h'.get? b = some o)) E) PySem.F.called_set.init.plain PySem.F.entry_set_init (check_set_init_1 hT ?_)) fun r2 s2 hr2 => ?_
      · obtain ⟨⟨oc, od, dt, sl⟩, hol, hcl, nl, hdl⟩ := hl
        simp only at hcl hdl
        subst hcl hdl
        have hol2 : (s.heap.push O).get? l = some { cls := .type "list", dict := od, data := .seq its nl, slots := sl } := Heap.get?_push_of_some _ hol
        have k1 := PySem.F.sub_list_set; have k2 := PySem.F.sub_list_frozenset
        have k3 : (Value.type "list" == Value.type "dict") = false := by decide
        have hl1 : (s.heap.push O).IsList l its := ⟨_, hol2, rfl, nl, rfl⟩
        subst hO
        unfold Builtin.«set.__init__» noKeywords Builtin.Frozenset.updateFrom
        generalize hPI : pyIter = PI
        wp_walk
        subst hPI
        refine wpAny_pyIter_list hl1 ?_
        refine wpAny_bind (wpAny_runValue ?_)
        have lt : l < s.heap.objs.size := Heap.lt_size hol
        have h3 : B.in1.in1.in1.handled = none := by simp [hh]
        have ne : l ≠ (s.heap.push ({ cls := .type "set", dict := none, data := .set #[] 0 (.fresh 0 0 led) } : Obj)).objs.size := by rw [Heap.size_push]; exact Nat.ne_of_lt (Nat.lt_succ_of_lt lt)
        have nf : s.heap.objs.size ∉ [(s.heap.push ({ cls := .type "set", dict := none, data := .set #[] 0 (.fresh 0 0 led) } : Obj)).objs.size, l] := by
          rw [Heap.size_push]
          simp only [List.mem_cons, List.mem_singleton, List.not_mem_nil, or_false, not_or]
          exact ⟨Nat.ne_of_lt (Nat.lt_succ_self _), Nat.ne_of_gt lt⟩
        have sz : xs.length = its.size := by rw [← StrsAre.len_eq hi, Array.length_toList]
        refine update_texts ((Walks.list h3 _ l ne its).toS) s.heap.objs.size nf xs sz hb (fun i v hv => str_get hi i v (by rw [Array.getElem?_toList]; exact hv)) (its.size - 0) 0 _ (by omega) (Nat.zero_le _) ⟨⟨_, Heap.get?_push_size _ rfl, rfl, rfl⟩, (hl1.push _)⟩ ?h0 ?hR
        case h0 =>
          have g : ((s.heap.push ({ cls := .type "set", dict := none, data := .set #[] 0 (.fresh 0 0 led) } : Obj)).push { cls := .type "list_iterator", data := .fields #[.ref l, .int 0 0] }).get? s.heap.objs.size = some ({ cls := .type "set", dict := none, data := .set #[] 0 (.fresh 0 0 led) } : Obj) := Heap.get?_push_of_some _ hS
          exact PyProof.Rows.SetOf_congr ((PyProof.Rows.setObjOf_fresh (knd := PySem.strKind P w) led).setOf g (by unfold scanBound; omega)) (fun _ => rfl) rfl
        case hR =>
          intro s' mv q
          obtain ⟨h', g', d', tk', os'⟩ := s'
          obtain rfl : g' = s.gens := mv.gens
          obtain rfl : d' = s.drawn := mv.drawn
          obtain rfl : os' = s.os := mv.os
          show wpAny _ _ _ _ _ _
          refine wpAny_pure ?_
          show wpAny _ _ (ret Value.none) _ _ _
          refine wpAny_pure ⟨rfl, h', tk', rfl, q, fun b o hb e => mv.heap b o ?_ (Heap.get?_push_of_some _ (Heap.get?_push_of_some _ e))⟩
          simp only [List.mem_cons, List.mem_singleton, List.not_mem_nil, or_false, not_or]
          refine ⟨Nat.ne_of_lt hb, ?_⟩
          show b ≠ (s.heap.push ({ cls := .type "set", dict := none, data := .set #[] 0 (.fresh 0 0 led) } : Obj)).objs.size
          rw [Heap.size_push]; exact Nat.ne_of_lt (Nat.lt_succ_of_lt hb)
      · cases r2 with
        | error e => exact hr2
        | ok f2 =>
          cases f2 with
          | ret r =>
            obtain ⟨rfl, h', tk, rfl, q, k⟩ := hr2
            repeat (any_goals (first | assumption | wp_step))
            exact h _ _ q k
          | _ => exact hr2.elim
    | _ => exact hr.elim

theorem set_of_tuple {l : Addr} {its : Array Value} {xs : List Str} {Q : Value → Shared → Prop} (hh : B.handled = none) (hl : s.heap.IsTuple l its) (hi : StrsAre its.toList xs) (hb : its.size + 1 < scanBound)
    (h : ∀ (h' : Heap) (tk : Nat), SetUp P w h' s.heap.objs.size xs its.size → (∀ b o, b < s.heap.objs.size → s.heap.get? b = some o → h'.get? b = some o) → Q (.ref s.heap.objs.size) { s with heap := h', toks := tk }) :
    wpAny (model P w) B (call (.type "set") [.ref l]) Q E s := by
  obtain ⟨cM, tM, mro⟩ := PySem.F.called_set.mro; have made := PySem.F.called_set.made; have subS := PySem.F.called_set.sub
  refine wpAny_call (codeAny_of_tree ?_); show wpAny _ _ (callAny (.type "set") _) _ _ _
  refine wpAny_pure ⟨Code.quiet_builtin _ (by decide +kernel), codeAny_builtin PySem.F.entry_type_call ?_⟩; rw [Around.under_plain (weight_type_call_type "set" [.ref l] []) rfl]
  have n1 := PySem.F.called_set.notType; have n2 := PySem.F.called_set.canCreate; have n3 := PySem.F.typeCall_set_1 (.ref l)
  repeat (any_goals (first | assumption | wp_step))
  refine codeAny_mono (code_set_new_1 (.ref l) (E := E) (Q₁ := fun ob s1 => ∃ led : Bool, ob = .ref s.heap.objs.size ∧ s1 = { s with heap := s.heap.push { cls := .type "set", dict := none, data := .set #[] 0 (.fresh 0 0 led) } }) fun led => ⟨led, rfl, rfl⟩) fun r s1 hr => ?_
  cases r with
  | error e => exact hr
  | ok fl =>
    cases fl with
    | ret ob =>
      obtain ⟨led, rfl, rfl⟩ := hr
      generalize hO : ({ cls := .type "set", dict := none, data := .set #[] 0 (.fresh 0 0 led) } : Obj) = O
      have hS : (s.heap.push O).get? s.heap.objs.size = some O := Heap.get?_push_size _ (by rw [← hO] <;> rfl)
      have hT : Shared.TypeIs { s with heap := s.heap.push O } (.ref s.heap.objs.size) "set" := ⟨_, hS, by rw [← hO] <;> rfl⟩
      have i1 := PySem.F.called_set.init.lookup; have i2 := PySem.F.called_set.init.bind (.ref s.heap.objs.size)
      repeat (any_goals (first | assumption | wp_step))
      refine codeAny_mono (codeAny_call_builtin (R := wants (fun r s2 => r = .none ∧ ∃ h' tk, s2 = { s with heap := h', toks := tk } ∧ SetUp P w h' s.heap.objs.size xs its.size ∧ (∀ b o, b < s.heap.objs.size → s.heap.get? b = some o → h'.get? b = some o)) E) PySem.F.called_set.init.plain PySem.F.entry_set_init (check_set_init_1 hT ?_)) fun r2 s2 hr2 => ?_
      · obtain ⟨⟨oc, od, dt, sl⟩, hol, hcl, nl, hdl⟩ := hl
        simp only at hcl hdl
        subst hcl hdl
        have hol2 : (s.heap.push O).get? l = some { cls := .type "tuple", dict := od, data := .seq its nl, slots := sl } := Heap.get?_push_of_some _ hol
        have k1 := PySem.F.sub_tuple_set; have k2 := PySem.F.sub_tuple_frozenset
        have k3 : (Value.type "tuple" == Value.type "dict") = false := by decide
        have hl1 : (s.heap.push O).IsTuple l its := ⟨_, hol2, rfl, nl, rfl⟩
        subst hO
        unfold Builtin.«set.__init__» noKeywords Builtin.Frozenset.updateFrom
        generalize hPI : pyIter = PI
        wp_walk
        subst hPI
        refine wpAny_pyIter_tuple hl1 ?_
        refine wpAny_bind (wpAny_runValue ?_)
        have lt : l < s.heap.objs.size := Heap.lt_size hol
        have h3 : B.in1.in1.in1.handled = none := by simp [hh]
        have ne : l ≠ (s.heap.push ({ cls := .type "set", dict := none, data := .set #[] 0 (.fresh 0 0 led) } : Obj)).objs.size := by rw [Heap.size_push]; exact Nat.ne_of_lt (Nat.lt_succ_of_lt lt)
        have nf : s.heap.objs.size ∉ [(s.heap.push ({ cls := .type "set", dict := none, data := .set #[] 0 (.fresh 0 0 led) } : Obj)).objs.size, l] := by
          rw [Heap.size_push]
          simp only [List.mem_cons, List.mem_singleton, List.not_mem_nil, or_false, not_or]
          exact ⟨Nat.ne_of_lt (Nat.lt_succ_self _), Nat.ne_of_gt lt⟩
        have sz : xs.length = its.size := by rw [← StrsAre.len_eq hi, Array.length_toList]
        refine update_texts ((Walks.tuple h3 _ l ne its).toS) s.heap.objs.size nf xs sz hb (fun i v hv => str_get hi i v (by rw [Array.getElem?_toList]; exact hv)) (its.size - 0) 0 _ (by omega) (Nat.zero_le _) ⟨⟨_, Heap.get?_push_size _ rfl, rfl, rfl⟩, (hl1.push _)⟩ ?h0 ?hR
        case h0 =>
          have g : ((s.heap.push ({ cls := .type "set", dict := none, data := .set #[] 0 (.fresh 0 0 led) } : Obj)).push { cls := .type "tuple_iterator", data := .fields #[.ref l, .int 0 0] }).get? s.heap.objs.size = some ({ cls := .type "set", dict := none, data := .set #[] 0 (.fresh 0 0 led) } : Obj) := Heap.get?_push_of_some _ hS
          exact PyProof.Rows.SetOf_congr ((PyProof.Rows.setObjOf_fresh (knd := PySem.strKind P w) led).setOf g (by unfold scanBound; omega)) (fun _ => rfl) rfl
        case hR =>
          intro s' mv q
          obtain ⟨h', g', d', tk', os'⟩ := s'
          obtain rfl : g' = s.gens := mv.gens
          obtain rfl : d' = s.drawn := mv.drawn
          obtain rfl : os' = s.os := mv.os
          show wpAny _ _ _ _ _ _
          refine wpAny_pure ?_
          show wpAny _ _ (ret Value.none) _ _ _
          refine wpAny_pure ⟨rfl, h', tk', rfl, q, fun b o hb e => mv.heap b o ?_ (Heap.get?_push_of_some _ (Heap.get?_push_of_some _ e))⟩
          simp only [List.mem_cons, List.mem_singleton, List.not_mem_nil, or_false, not_or]
          refine ⟨Nat.ne_of_lt hb, ?_⟩
          show b ≠ (s.heap.push ({ cls := .type "set", dict := none, data := .set #[] 0 (.fresh 0 0 led) } : Obj)).objs.size
          rw [Heap.size_push]; exact Nat.ne_of_lt (Nat.lt_succ_of_lt hb)
      · cases r2 with
        | error e => exact hr2
        | ok f2 =>
          cases f2 with
          | ret r =>
            obtain ⟨rfl, h', tk, rfl, q, k⟩ := hr2
            repeat (any_goals (first | assumption | wp_step))
            exact h _ _ q k
          | _ => exact hr2.elim
    | _ => exact hr.elim
end
end Sh
namespace Sh
open PySem PySem.Spec PyProof.Rows L2
def tLenT (K : PySem.W.Frag) (ta : TE) : TE := fun σ H Q => ta σ H fun x H1 => ∃ l, ∃ xs : List Str, x = .ref l ∧ (SqL K H1 l (xs.map V.str) ∨ SqT K H1 l (xs.map V.str)) ∧ xs.length + 1 < scanBound ∧ Q (.int (dedS xs).length) H1
section
variable {X : Cx} {c : Cc} {e a : Expr} {p p2 q pos : Pos}
theorem pe_lenT {ta : TE} (hc : X.calm = true) (hg : Gl X "len") (hm : X.mg "len" = none) (hg2 : Gl X "set") (hm2 : X.mg "set" = none) (ha : PE X a ta)
    (na : starEach [a] X.env = (false, eval a X.env) :: starEach [] X.env := by rfl) : PE X (.Call (.Name "len" p) [.Call (.Name "set" p2) [a] [] q] [] pos) (tLenT X.K ta) := by
  refine ⟨fun pins s σ H Q I h => Call_ (ld_blt I hg hm boot_len (PyProof.Rows.callWith_builtin1 (PyProof.Rows.args_cons (Call_ (ld_blt I hg2 hm2 boot_set ?_)) rfl) rfl rfl))⟩
  refine PyProof.Rows.callWith_type1 (PyProof.Rows.args_cons (thn (ha.run pins s σ H _ I h) fun v s1 ⟨x, H1, I1, r1, l, xs, ex, hq, hn, q1⟩ => PyProof.Rows.args_nil ?_) na) na rfl
  subst ex
  cases r1
  have fin : ∀ (its : List Value), Vals (xs.map V.str) its → ∀ (h' : Heap) (tk : Nat), SetUp X.prog X.w h' s1.heap.objs.size xs its.toArray.size → (∀ b o, b < s1.heap.objs.size → s1.heap.get? b = some o → h'.get? b = some o) →
      wpAny (model X.prog X.w) X.A (spliced (backTo pos (starEach [] X.env))) (fun vs s2 => wpAny (model X.prog X.w) X.A (call (.builtin "len") (Value.ref s1.heap.objs.size :: vs)) (EP X pins σ Q) X.xe s2) X.xe { s1 with heap := h', toks := tk } := fun its r h' tk hS hk => by
    refine PyProof.Rows.args_nil ?_
    have hl : its.toArray.size = xs.length := by rw [List.size_toArray, ← r.length, List.length_map]
    unfold SetUp at hS
    rw [hl, List.take_length] at hS
    obtain ⟨o, es, ep, t, ho, hex, hd, _, _, _, hf, hsz⟩ := hS
    have I2 : Inv X pins σ H1 { s1 with heap := h', toks := tk } := I1.kept fun b o e => hk b o (Heap.lt_size e) e
    have le := dedS_le _ xs rfl
    have b63 : scanBound < 2 ^ 62 := by decide
    refine call_len_set ho hex hd hf (by rw [hsz]; omega) ⟨.int (dedS xs).length, H1, I2.tok _, ⟨_, by rw [hsz]⟩, q1⟩
  have sz : ∀ (its : List Value), Vals (xs.map V.str) its → its.toArray.size + 1 < scanBound := fun its r => by rw [List.size_toArray, ← r.length, List.length_map]; exact hn
  rcases hq with hq | hq
  · obtain ⟨its, r, pl, hz⟩ := I1.list hq
    exact set_of_list (I1.ok.hd hc) pl.isList (by simpa using strsAre_of r) (sz its r) fun h' tk hS hk => fin its r h' tk hS hk
  · obtain ⟨its, r, pl, hz⟩ := I1.tuple hq
    exact set_of_tuple (I1.ok.hd hc) pl (by simpa using strsAre_of r) (sz its r) fun h' tk hS hk => fin its r h' tk hS hk
def gLenSet : P1f := fun a h => match seqOf a h with
  | some xs => (match strsD xs with
    | some ys => if ys.length < 1000 then some (.d (.int (dedS ys).length)) else none
    | none => none)
  | none => none
theorem ce_lenSet {fa : EX} (hc : X.calm = true) (hg : Gl X "len") (hm : X.mg "len" = none) (hg2 : Gl X "set") (hm2 : X.mg "set" = none) (ha : CE X c a fa)
    (na : starEach [a] X.env = (false, eval a X.env) :: starEach [] X.env := by rfl) : CE X c (.Call (.Name "len" p) [.Call (.Name "set" p2) [a] [] q] [] pos) (op1 gLenSet fa) := by
  refine pe_weak (pe_lenT hc hg hm hg2 hm2 ha na) fun σ H Q q => ?_
  obtain ⟨G, ρ, S, h, s, e⟩ := q
  refine ⟨G, ρ, S, h, s, e.bind (rel := RV (c.p X.K)) fun r h1 ρ1 H1 x n1 rx e1 => ?_⟩
  have ef := (e1.later n1 fun _ _ _ _ z => z.back n1 s.hr).fin
  unfold gLenSet at ef
  cases hs : seqOf r h1 with
  | none => rw [hs] at ef; exact ef.elim
  | some xs =>
    rw [hs] at ef
    simp only at ef
    cases hy : strsD xs with
    | none => rw [hy] at ef; exact ef.elim
    | some ys =>
      rw [hy] at ef
      simp only at ef
      split at ef
      · rename_i hlt
        obtain ⟨l, vs, rfl, hq, dv⟩ := seq_of n1.hr rx hs
        have ev := strs_of dv hy
        subst ev
        refine ⟨l, ys, rfl, hq, by unfold scanBound; omega, fin_d n1.hr n1.tb ef (.int _)⟩
      · exact ef.elim
end
end Sh
set_option Elab.async false
set_option linter.all false
set_option maxRecDepth 100000
set_option maxHeartbeats 2000000
namespace Sh
open PySem PySem.Spec PyProof.Rows L2
/-! ### enumerate of a tuple -/
section
variable {prog : Program} {w : World} {A : Around} {E : Value → Shared → Prop} {s : Shared}
theorem meets_enumT (l : Addr) (items : Array Value) (n : Nat) (dct : Option Addr) (sl : Array (Option Value)) :
    Meets (Builtin.«enumerate.__new__» ⟨[.type "enumerate", .ref l], []⟩) (fun _ R s => s.heap.get? l = some { cls := .type "tuple", dict := dct, data := .seq items n, slots := sl } ∧
      R (.ok (.ret (.ref (s.heap.push { cls := .type "tuple_iterator", data := .fields #[.ref l, .int 0 0] }).objs.size)))
        { s with heap := (s.heap.push { cls := .type "tuple_iterator", data := .fields #[.ref l, .int 0 0] }).push { cls := .type "enumerate", data := .fields #[.none, .bool false, .ref s.heap.objs.size, rawInt 0, .none, .none] } }) :=
  .of_wp fun prog w A R s h => by
    obtain ⟨hp, g, d, tk, os⟩ := s
    obtain ⟨hl, h⟩ := h
    have hsub := sub_enumerate
    have hL : Heap.IsTuple (Shared.heap ⟨hp, g, d, tk, os⟩) l items := ⟨_, hl, rfl, n, rfl⟩
    wp_walk using AutoSeq1.wpAny_loadPart' hl
    refine wpAny_stack_any fun st => wpAny_pure ?_
    split
    · rename_i c _ _ _ _ _
      cases (c == Value.type "enumerate")
      · wp_walk using AutoSeq1.wpAny_loadPart' hl, wpAny_pyIter_tuple hL
        exact ⟨_, rfl, h⟩
      · wp_walk using AutoSeq1.wpAny_loadPart' hl, wpAny_pyIter_tuple hL
        exact ⟨_, rfl, h⟩
    · wp_walk using AutoSeq1.wpAny_loadPart' hl, wpAny_pyIter_tuple hL
      exact ⟨_, rfl, h⟩
theorem call_enumT {l : Addr} {items : Array Value} {Q : Value → Shared → Prop} (hL : s.heap.IsTuple l items)
    (h : ∀ h', IsEnum h' (s.heap.objs.size + 1) s.heap.objs.size 0 .none → h'.IsTupleIter s.heap.objs.size l 0 → (∀ b o, s.heap.get? b = some o → h'.get? b = some o) → Q (.ref (s.heap.objs.size + 1)) { s with heap := h' }) :
    wpAny (model prog w) A (call (.type "enumerate") [.ref l]) Q E s := by
  obtain ⟨⟨c, dct, dt, sl⟩, hl, hc, n, hd⟩ := hL
  obtain rfl : c = .type "tuple" := hc
  obtain rfl : dt = .seq items n := hd
  refine callType_new F.called_enumerate (by decide) (F.typeCall_enumerate_1 _) (F.newCall_enumerate_1 _) (fun obj => F.args_object_init_2 obj _) F.entry_enumerate_new (meets_enumT l items n dct sl) ⟨hl, ?_⟩
  have hz : (s.heap.push { cls := .type "tuple_iterator", data := .fields #[.ref l, .int 0 0] }).objs.size = s.heap.objs.size + 1 := Heap.size_push ..
  show _ ∧ _
  rw [hz]
  have he := Heap.get?_push_size (s.heap.push { cls := .type "tuple_iterator", data := .fields #[.ref l, .int 0 0] }) (o := { cls := .type "enumerate", data := .fields #[.none, .bool false, .ref s.heap.objs.size, rawInt 0, .none, .none] }) rfl
  rw [hz] at he
  exact ⟨⟨_, he, rfl⟩, h _ he ⟨_, Heap.get?_push_of_some _ (Heap.get?_push_size _ rfl), rfl, rfl⟩ fun b o x => Heap.get?_push_of_some _ (Heap.get?_push_of_some _ x)⟩
end
def IteT (K : PySem.W.Frag) (a : Addr) (n : Nat) : It :=
  ⟨fun i H => i < n ∧ ∃ (xs : List V), SqT K H a xs ∧ xs.length = n, fun i H v H' => ∃ T x, v = .ref T ∧ H T = none ∧ H' = upd H T (.tup [.int (i : Nat), x]) ∧ ∀ xs, SqT K H a xs → xs[i]? = some x, fun i H => i = n ∧ ∃ xs : List V, SqT K H a xs ∧ xs.length = n⟩
theorem turn_enT {P : Program} {w : World} {K : PySem.W.Frag} {elts : List Expr} {kk : Nat} {tpos : Pos} (a e it : Addr) (n : Nat) :
    Turn P w K (.Tuple elts kk tpos) (IteT K a n) [e, it] e (fun i h => i ≤ n ∧ (∃ old, IsEnum h e it ((i : Nat) : Int) old) ∧ h.IsTupleIter it a i ∧ e ≠ it) where
  mem := by simp
  obj := fun i h st b hb => by
    obtain ⟨_, ⟨old, he⟩, ⟨o, ho, hc, hd⟩, _⟩ := st
    have e' : b = e ∨ b = it := by simpa using hb
    rcases e' with z | z
    · rw [z]; exact ⟨_, he, fun v q => nomatch q⟩
    · rw [z]; exact ⟨o, ho, fun v q => by rw [hd] at q; cases q⟩
  keep := fun i h h' st k => let ⟨h1, ⟨old, he⟩, hi, hne⟩ := st; ⟨h1, ⟨old, k e (by simp) _ he⟩, hi.at fun o q => k it (by simp) o q, hne⟩
  item := by
    intro X hP hw hK hc i pins s σ H E I hf st hg
    subst hP hw hK
    obtain ⟨hin, ⟨old, he⟩, hit, hne⟩ := st
    obtain ⟨hlt, xs, hq, hn⟩ := hg
    obtain ⟨its, rv, p, hz⟩ := I.tuple hq
    have hl := rv.length
    have hsz : its.toArray.size = n := by rw [List.size_toArray]; omega
    obtain ⟨ol, hol, hcl, _⟩ := id p
    have hai : a ≠ it := fun z => by
      obtain ⟨o, ho, hc, _⟩ := id hit
      rw [← z, hol] at ho; cases ho; rw [hcl] at hc; exact absurd (Value.type.inj hc) (by decide)
    have hea : e ≠ a := fun z => by
      have he' := he
      unfold IsEnum at he'
      rw [z, hol] at he'; rw [Option.some.inj he'] at hcl; exact absurd (Value.type.inj hcl) (by decide)
    have D := Draws.tuple (prog := X.prog) (w := X.w) (A := X.A.in1) (I.ok.hd hc) it a hai its.toArray
    have hel : e < s.heap.objs.size := Heap.lt_size he
    have hil : it < s.heap.objs.size := by obtain ⟨_, q, _⟩ := hit; exact Heap.lt_size q
    refine wpAny_pyNext_enum_itemD D he ⟨hit, p⟩ (by omega) hne (by simp [hne, hea]) fun u h' tk hu ho hit' hT hsz' hk => ?_
    refine ⟨_, rfl, wpAny_letOwnedTupleGo_enum (s := { s with heap := h', toks := tk + 1 }) ho fun h'' he' sb => ?_⟩
    have hT2 : h''.get? s.heap.objs.size = some { cls := .type "tuple", data := .seq #[.int i tk, u] } := (sb.2 _ (Nat.ne_of_gt hel)).trans hT
    have hix : i < xs.length := by omega
    have hx : xs[i]? = some xs[i] := List.getElem?_eq_getElem hix
    obtain ⟨u', hu', ru⟩ := rv.get hx
    have eu : u' = u := by
      have hu2 : its[i]? = some u := by simpa using hu
      rw [hu'] at hu2; exact Option.some.inj hu2
    subst eu
    have new : ObjOk X.prog X.w (upd H s.heap.objs.size (.tup [.int (i : Nat), xs[i]])) h'' s.heap.objs.size (.tup [.int (i : Nat), xs[i]]) :=
      ⟨by show 2 ≤ sizeLine; decide, [.int i tk, u'], .cons ⟨_, rfl⟩ (.cons ru .nil), ⟨_, hT2, rfl, _, rfl⟩⟩
    have I1 : L2.Inv X pins σ (upd H s.heap.objs.size (.tup [.int (i : Nat), xs[i]])) { s with heap := h'', toks := tk + 1 } :=
      I.turnedNew (ch := [e, it]) (fun b ob hb q => (sb.2 b (fun z => hb (by simp [z]))).trans (hk b ob (fun z => hb (by simp [z])) (fun z => hb (by simp [z])) q)) hf (Nat.le_refl _) new
    refine ⟨.ref s.heap.objs.size, _, I1, rfl, ⟨_, _, rfl, I.hok.fresh (Nat.le_refl _), rfl, fun ys hy => by rw [I.tuple_inj hy hq]; exact hx⟩, ⟨by omega, ⟨u', ?_⟩, ?_, hne⟩, fun b hb => ?_⟩
    · have e1 : ((i + 1 : Nat) : Int) = (i : Int) + 1 := by omega
      rw [e1]; exact he'
    · exact hit'.1.at fun o q => (sb.2 it (Ne.symm hne)).trans q
    · have hb' : b < s.heap.objs.size := by
        have e' : b = e ∨ b = it := by simpa using hb
        rcases e' with z | z
        · rw [z]; exact hel
        · rw [z]; exact hil
      rw [upd_ne (Nat.ne_of_lt hb')]
      exact (hf b hb).1
  done := by
    intro X hP hw hK hc i pins s σ H E I hf st hg
    subst hP hw hK
    obtain ⟨hin, ⟨old, he⟩, hit, hne⟩ := st
    obtain ⟨rfl, xs, hq, hn⟩ := hg
    obtain ⟨its, rv, p, hz⟩ := I.tuple hq
    have hl := rv.length
    have hsz : its.toArray.size = i := by rw [List.size_toArray]; omega
    obtain ⟨ol, hol, hcl, _⟩ := id p
    have hai : a ≠ it := fun z => by
      obtain ⟨o, ho, hc, _⟩ := id hit
      rw [← z, hol] at ho; cases ho; rw [hcl] at hc; exact absurd (Value.type.inj hc) (by decide)
    have D := Draws.tuple (prog := X.prog) (w := X.w) (A := X.A.in1) (I.ok.hd hc) it a hai its.toArray
    obtain ⟨f0, f1, f2, f3, f4, f5⟩ := hf it (by simp)
    have hst : (fun j (h : Heap) => h.IsTupleIter it a j ∧ h.IsTuple a its.toArray) its.toArray.size s.heap := ⟨by rw [hsz]; exact hit, p⟩
    exact wpAny_pyNext_enum_endD D he hst fun h' eb => ⟨rfl, I.turned (t' := s.toks) (fun b o hb q => eb b o hb q) f0 f1 f3 f4 f5⟩
  self := fun A i s Q E st h => let ⟨_, ⟨_, he⟩, _⟩ := st; wpAny_pyIter_enum he h
theorem walk_enT {K : PySem.W.Frag} {a : Addr} {xs : List V} : Walk (IteT K a xs.length) xs.length (fun H => SqT K H a xs) (YPair (fun i => some (.int (i : Nat))) (fun i => xs[i]?)) :=
  ⟨fun i _ hi q => ⟨hi, xs, q, rfl⟩, fun _ q => ⟨rfl, xs, q, rfl⟩, fun _ _ _ _ _ q y => let ⟨T, x, h1, h2, h3, h4⟩ := y; ⟨T, _, x, h1, h2, h3, rfl, h4 xs q⟩⟩
theorem walk_zT {K : PySem.W.Frag} {a b : Addr} {xs ys : List V} {n : Nat} (hn : n = min xs.length ys.length) : Walk (RZ.ItzT K a b) n (fun H => SqT K H a xs ∧ SqT K H b ys) (YPair (fun i => xs[i]?) (fun i => ys[i]?)) :=
  ⟨fun i _ hi q => ⟨xs, ys, xs[i]'(by omega), ys[i]'(by omega), q.1, q.2, List.getElem?_eq_getElem _, List.getElem?_eq_getElem _⟩, fun _ q => ⟨xs, ys, q.1, q.2, by omega⟩,
    fun _ _ _ _ _ q y => let ⟨T, x, y, h1, h2, h3, h4, h5⟩ := y; ⟨T, x, y, h1, h2, h3, h4 xs q.1, h5 ys q.2⟩⟩
def iEnA (K : PySem.W.Frag) (te : TE) : TI := fun σ H R => te σ H fun v H1 => ∃ (a : Addr) (xs : List V), v = .ref a ∧ ((SqL K H1 a xs ∧ R (Ite K a) H1) ∨ (SqT K H1 a xs ∧ R (IteT K a xs.length) H1))
theorem pi_enA {X : Cx} {e : Expr} {te : TE} {p pos tpos : Pos} {elts : List Expr} {kk : Nat} (hg : Gl X "enumerate") (hm : X.mg "enumerate" = none) (he : PE X e te) (hs : starEach [e] X.env = (false, eval e X.env) :: starEach [] X.env := by rfl) :
    PI X (.Tuple elts kk tpos) (.Call (.Name "enumerate" p) [e] [] pos) (iEnA X.K te) := by
  refine ⟨fun pins s σ H R I h => ?_⟩
  refine Call_ (ld_blt I hg hm boot_enumerate (PyProof.Rows.callWith_type1 (args_cons (thn (he.run pins s σ H _ I h) fun u s1 ⟨v, H1, I1, r1, a, xs, ev, q⟩ => args_nil ?_) hs) hs rfl))
  subst ev
  obtain rfl : u = Value.ref a := r1
  have two : ∀ b ∈ [s1.heap.objs.size + 1, s1.heap.objs.size], FpOk X pins H1 b := fun b hb => by
    have hle : s1.heap.objs.size ≤ b := by
      have e' : b = s1.heap.objs.size + 1 ∨ b = s1.heap.objs.size := by simpa using hb
      rcases e' with z | z
      · rw [z]; exact Nat.le_add_right _ _
      · rw [z]; exact Nat.le_refl _
    exact I1.fpOk hle (I1.hok.fresh hle)
  rcases q with ⟨hq, q⟩ | ⟨hq, q⟩
  · obtain ⟨its, rv, p', hz⟩ := I1.list hq
    exact call_enumerate_list p'.isList fun h' he hit hsz hk => wpAny_pyIter_enum he ⟨s1.heap.objs.size + 1, _, _, _, H1, rfl, I1.kept (t' := s1.toks) hk, turn_enum a (s1.heap.objs.size + 1) s1.heap.objs.size, ⟨⟨.none, he⟩, hit, Nat.succ_ne_self _⟩, two, q⟩
  · obtain ⟨its, rv, p', hz⟩ := I1.tuple hq
    exact call_enumT p' fun h' he hit hk => wpAny_pyIter_enum he ⟨s1.heap.objs.size + 1, _, _, _, H1, rfl, I1.kept (t' := s1.toks) hk, turn_enT a (s1.heap.objs.size + 1) s1.heap.objs.size xs.length, ⟨Nat.zero_le _, ⟨.none, he⟩, hit, Nat.succ_ne_self _⟩, two, q⟩
/-- what a walk in pairs gives -/
theorem itR_pair {p : Pm} {fz : Addr → HO → Prop} {ρ : List Addr} {H : Hp} {ds : List D} {J : It} {Gd : Hp → Prop} {f g : Nat → Option V} {n : Nat} (supp : List (Addr × HO)) (w : Walk J n Gd (YPair f g)) (en : ds.length = n)
    (pd : ∀ i x y, i < n → f i = some x → g i = some y → ∃ dx dy, ds[i]? = some (.tup [dx, dy]) ∧ DV p.K ρ H x dx ∧ DV p.K ρ H y dy)
    (hs : ∀ q ∈ supp, H q.1 = some q.2 ∧ NoTbl q.2 ∧ q.1 ∉ ρ ∧ fz q.1 q.2) (hg : ∀ H', (∀ q ∈ supp, H' q.1 = some q.2) → Gd H') : ItR p fz ρ H J ds := by
  subst en
  refine ⟨Gd, _, supp, w, hs, hg, fun i ρ1 h1 H1 x H1' l _ hr tb hi y => ?_⟩
  obtain ⟨T, x, y, rfl, hT, rfl, hx, hy⟩ := y
  obtain ⟨dx, dy, e1, e2, e3⟩ := pd i x y hi hx hy
  have n := Nx.alloc (o := .tup [x, y]) hr tb hT
  exact ⟨n, _, e1, .tup (SqT.of upd_same) (.cons (n.dv hr (l.dv e2)) (.cons (n.dv hr (l.dv e3)) .nil))⟩
section
variable {X : Cx} {c : Cc} {e e2 : Expr} {pos p tpos : Pos} {elts : List Expr} {kk : Nat}
def iEn (f : IX) : IX := fun S h => andThen (f S h) fun ds h1 => some (.ok (pairD 0 ds) h1)
theorem itR_en {p : Pm} {fz : Addr → HO → Prop} {ρ : List Addr} {H : Hp} {vs : List V} {ds : List D} {J : It} {Gd : Hp → Prop} (supp : List (Addr × HO)) (w : Walk J vs.length Gd (YPair (fun i => some (.int (i : Nat))) (fun i => vs[i]?)))
    (r : DVs p.K ρ H vs ds) (hs : ∀ q ∈ supp, H q.1 = some q.2 ∧ NoTbl q.2 ∧ q.1 ∉ ρ ∧ fz q.1 q.2) (hg : ∀ H', (∀ q ∈ supp, H' q.1 = some q.2) → Gd H') : ItR p fz ρ H J (pairD 0 ds) := by
  refine itR_pair supp w (by rw [pairD_length, r.length]) (fun i x y hi ex ey => ?_) hs hg
  obtain ⟨d, e1, e2⟩ := r.get ey
  cases ex
  exact ⟨.int ((0 + i : Nat) : Int), d, pairD_get 0 i ds d e1, by rw [Nat.zero_add]; exact .int _, e2⟩
theorem ci_en {f : IX} {fz : FZ} (hg : Gl X "enumerate") (hm : X.mg "enumerate" = none) (he : CSrc X c fz e f) (hs : starEach [e] X.env = (false, eval e X.env) :: starEach [] X.env := by rfl) :
    CI X c fz (.Tuple elts kk tpos) (.Call (.Name "enumerate" p) [e] [] pos) (iEn f) := by
  refine pi_weak (pi_enA hg hm he hs) fun σ H R q => ?_
  obtain ⟨G, ρ, S, h, s, e⟩ := q
  refine ⟨G, ρ, S, h, s, e.bind (rel := fun ρ' Hb H' v ds => SrcR (c.p X.K) (fz G Hb) ρ' H' v ds) fun ds h1 ρ1 H1 v n1 sr e1 => ?_⟩
  obtain ⟨a, vs, supp, rfl, r, hsup, h2⟩ := sr
  refine ⟨a, vs, rfl, ?_⟩
  rcases h2 with ⟨h2, h3⟩ | ⟨h2, h3⟩
  · exact .inl ⟨h2, e1 ρ1 H1 _ n1 (itR_en supp walk_enum r hsup h3)⟩
  · exact .inr ⟨h2, e1 ρ1 H1 _ n1 (itR_en supp walk_enT r hsup h3)⟩
/-- in an expression: any list or tuple -/
def seqX : R → Option (List D)
  | .d (.tup xs) => some xs
  | .new (.lst xs) => some xs
  | .bor (.lst xs) => some xs
  | .bor (.fz xs) => some xs
  | _ => none
theorem csrc_E {f : EX} (he : CE X c e f) : CSrc X c fzE e (iE seqX f) := by
  refine pe_weak he fun σ H Q q => ?_
  obtain ⟨G, ρ, S, h, s, e⟩ := q
  refine ⟨G, ρ, S, h, s, e.bind (rel := RV (c.p X.K)) fun r h1 ρ1 H1 v n1 rv e1 => ?_⟩
  cases r with
  | d x =>
    cases x with
    | tup xs =>
      cases rv with
      | tup h r => exact e1 ρ1 H1 _ n1 (src_tup n1.hr h r fun _ _ => trivial)
    | _ => exact e1.elim
  | new k =>
    cases k with
    | lst xs =>
      obtain ⟨a, rfl, hz, na, vs, hv, r⟩ := rv
      exact e1 ρ1 H1 _ n1 (src_lst hv na r trivial)
    | _ => exact e1.elim
  | bor k =>
    obtain ⟨a, rfl, q⟩ := rv
    cases k with
    | lst xs =>
      obtain ⟨vs, r, hv, na, _⟩ := q
      exact e1 ρ1 H1 _ n1 (src_lst hv na r trivial)
    | fz xs => exact e1 ρ1 H1 _ n1 (src_fz q fun _ _ => trivial)
    | dct xs => exact e1.elim
/-! ### zip of two lists, of two tuples -/
def zipD : List D → List D → List D
  | x :: xs, y :: ys => .tup [x, y] :: zipD xs ys
  | _, _ => []
theorem zipD_length : ∀ xs ys : List D, (zipD xs ys).length = min xs.length ys.length
  | [], ys => by simp [zipD]
  | x :: xs, [] => by simp [zipD]
  | x :: xs, y :: ys => by simp only [zipD, List.length_cons, zipD_length xs ys]; omega
theorem zipD_get : ∀ (xs ys : List D) (i : Nat) (x y : D), xs[i]? = some x → ys[i]? = some y → (zipD xs ys)[i]? = some (.tup [x, y])
  | [], _, _, _, _, e, _ => by simp at e
  | _ :: _, [], _, _, _, _, e => by simp at e
  | a :: xs, b :: ys, 0, x, y, e, e2 => by simp at e e2; subst e e2; rfl
  | a :: xs, b :: ys, i + 1, x, y, e, e2 => by
    show (zipD xs ys)[i]? = _
    exact zipD_get xs ys i x y (by simpa using e) (by simpa using e2)
/-- list (true) or tuple, its items -/
def kseqE : R → Option (Bool × List D)
  | .d (.tup xs) => some (false, xs)
  | .new (.lst xs) => some (true, xs)
  | .bor (.lst xs) => some (true, xs)
  | .bor (.fz xs) => some (true, xs)
  | _ => none
def kseqS : R → Option (Bool × List D)
  | .bor (.lst _) => none
  | r => kseqE r
theorem one_mem {α : Type} {P : α → Prop} {x : α} (h : P x) : ∀ q ∈ [x], P q := fun q m => by
  cases List.mem_singleton.mp m
  exact h
def SrcK (p : Pm) (fz : Addr → HO → Prop) (ρ : List Addr) (H : Hp) (v : V) (k : Bool) (ds : List D) : Prop := ∃ (a : Addr) (vs : List V) (supp : List (Addr × HO)), v = .ref a ∧ DVs p.K ρ H vs ds ∧ (∀ q ∈ supp, H q.1 = some q.2 ∧ NoTbl q.2 ∧ q.1 ∉ ρ ∧ fz q.1 q.2) ∧
  ∀ H', (∀ q ∈ supp, H' q.1 = some q.2) → if k = true then SqL p.K H' a vs else SqT p.K H' a vs
theorem SrcK.nx {p : Pm} {fz : Addr → HO → Prop} {ρ ρ1 : List Addr} {h h1 : Hs} {H H1 : Hp} {v : V} {k : Bool} {ds : List D} (n : Nx p ρ H ρ1 h1 H1) (hr : HR p ρ h H) (q : SrcK p fz ρ H v k ds) : SrcK p fz ρ1 H1 v k ds := by
  obtain ⟨a, vs, supp, e, r, hs, hq⟩ := q
  exact ⟨a, vs, supp, e, n.dvs hr r, fun q m => let ⟨a1, a2, a3, a4⟩ := hs q m; ⟨n.fr _ _ a1 a2 a3, a2, n.fresh a1 a3, a4⟩, hq⟩
theorem srcK_of {p : Pm} {fz : Addr → HO → Prop} {ρ : List Addr} {h : Hs} {Hb H : Hp} {v : V} {r : R} {k : Bool} {ds : List D} (hr : HR p ρ h H) (rv : RV p ρ Hb H v r) (e : kseqE r = some (k, ds)) (hf : ∀ a o, (MutO o → (∃ m, r = .bor (.lst m)) ∨ Hb a = none) → fz a o) : SrcK p fz ρ H v k ds := by
  have nm : ∀ {o : HO}, ¬ MutO o → ∀ a, fz a o := fun z a => hf a _ fun m => (z m).elim
  cases r with
  | d x =>
    cases x with
    | tup xs =>
      cases e
      cases rv with
      | @tup a vs _ h1 r =>
        rcases h1 with (h1 | ⟨o, h1⟩) | h1
        · exact ⟨a, vs, [(a, .tup vs)], rfl, r, one_mem ⟨h1, (fun _ z => nomatch z), rd_not (hr := hr) (u := .tup vs) h1 (fun z => z), nm (o := .tup vs) (fun z => z) _⟩, fun H' hh => .inl (.inl (hh (a, .tup vs) List.mem_cons_self))⟩
        · exact ⟨a, vs, [(a, .frz o (.tup vs))], rfl, r, one_mem ⟨h1, (fun _ z => nomatch z), rd_not (hr := hr) (u := .tup vs) h1 (fun z => z), nm (o := .frz o (.tup vs)) (fun z => z) _⟩, fun H' hh => .inl (.inr ⟨o, hh (a, .frz o (.tup vs)) List.mem_cons_self⟩)⟩
        · exact ⟨a, vs, [], rfl, r, fun q m => (by cases m), fun H' hh => .inr h1⟩
    | _ => cases e
  | new c =>
    cases c with
    | lst xs =>
      cases e
      obtain ⟨a, rfl, hz, na, vs, hv, r⟩ := rv
      exact ⟨a, vs, [(a, .lst vs)], rfl, r, one_mem ⟨hv, (fun _ z => nomatch z), na, hf _ _ fun _ => .inr hz⟩, fun H' hh => .inl (.inl (hh (a, .lst vs) List.mem_cons_self))⟩
    | _ => cases e
  | bor c =>
    obtain ⟨a, rfl, q⟩ := rv
    cases c with
    | lst xs =>
      cases e
      obtain ⟨vs, r, hv, na, _⟩ := q
      exact ⟨a, vs, [(a, .lst vs)], rfl, r, one_mem ⟨hv, (fun _ z => nomatch z), na, hf _ _ fun _ => .inl ⟨_, rfl⟩⟩, fun H' hh => .inl (.inl (hh (a, .lst vs) List.mem_cons_self))⟩
    | fz xs =>
      cases e
      obtain ⟨vs, r, q | ⟨⟨o, q1⟩, q2, q3⟩⟩ := q
      · exact ⟨a, vs, [], rfl, r, fun q m => (by cases m), fun H' hh => KL.sql q⟩
      · exact ⟨a, vs, [(a, .frz o (.lst vs))], rfl, r, one_mem ⟨q1, (fun _ z => nomatch z), q2, nm (o := .frz o (.lst vs)) (fun z => z) _⟩, fun H' hh => .inl (.inr ⟨o, hh (a, .frz o (.lst vs)) List.mem_cons_self⟩)⟩
    | dct xs => cases e
def iZip (kf : R → Option (Bool × List D)) (f : AX) : IX := fun S h => andThen (f S h) fun rs h1 => match rs with
  | [a, b] => (match kf a, kf b with
    | some (k, xs), some (k', ys) => if k = k' then some (.ok (zipD xs ys) h1) else none
    | _, _ => none)
  | _ => none
theorem ci_zip {f : AX} {fz : FZ} {kf : R → Option (Bool × List D)} (hk : ∀ ρ h G Hb H v r k ds, HR (c.p X.K) ρ h H → RV (c.p X.K) ρ Hb H v r → kf r = some (k, ds) → SrcK (c.p X.K) (fz G Hb) ρ H v k ds) (hg : Gl X "zip") (hm : X.mg "zip" = none) (he : CA X c [e, e2] f)
    (hs : starEach [e, e2] X.env = (false, eval e X.env) :: starEach [e2] X.env := by rfl) (hpl : (backTo pos (starEach [e2] X.env)).any (·.1) = false := by rfl) :
    CI X c fz (.Tuple elts kk tpos) (.Call (.Name "zip" p) [e, e2] [] pos) (iZip kf f) := by
  refine pi_weak (RZ.pi_zipA hg hm he hs hpl) fun σ H R q => ?_
  obtain ⟨G, ρ, S, h, s, e⟩ := q
  refine ⟨G, ρ, S, h, s, e.bind (rel := RVs (c.p X.K)) fun rs h1 ρ1 H1 vs n1 rv e1 => ?_⟩
  rcases rs with _ | ⟨a, _ | ⟨b, _ | ⟨_, _⟩⟩⟩
  · exact e1.elim
  · exact e1.elim
  · simp only at e1
    obtain ⟨va, vb, rfl, ra, rb⟩ := rv.two
    cases ka : kf a with
    | none => simp only [ka] at e1; exact e1.elim
    | some za =>
      obtain ⟨k, xs⟩ := za
      cases kb : kf b with
      | none => simp only [ka, kb] at e1; exact e1.elim
      | some zb =>
        obtain ⟨k', ys⟩ := zb
        simp only [ka, kb] at e1
        split at e1
        · rename_i hkk
          subst hkk
          obtain ⟨aa, us, sa, rfl, r1, s1, q1⟩ := hk ρ1 h1 G H H1 _ a k xs n1.hr ra ka
          obtain ⟨bb, ws, sb, rfl, r2, s2, q2⟩ := hk ρ1 h1 G H H1 _ b k ys n1.hr rb kb
          have hn : (zipD xs ys).length = min us.length ws.length := by rw [zipD_length, r1.length, r2.length]
          have pd : ∀ i x y, i < min us.length ws.length → us[i]? = some x → ws[i]? = some y → ∃ dx dy, (zipD xs ys)[i]? = some (.tup [dx, dy]) ∧ DV X.K ρ1 H1 x dx ∧ DV X.K ρ1 H1 y dy := fun i x y _ ex ey => by
            obtain ⟨d1, f1, g1⟩ := r1.get ex
            obtain ⟨d2, f2, g2⟩ := r2.get ey
            exact ⟨d1, d2, zipD_get xs ys i d1 d2 f1 f2, g1, g2⟩
          have hsup : ∀ q ∈ sa ++ sb, H1 q.1 = some q.2 ∧ NoTbl q.2 ∧ q.1 ∉ ρ1 ∧ fz G H q.1 q.2 := fun q m => (List.mem_append.mp m).elim (s1 q) (s2 q)
          have l1 : ∀ H' : Hp, (∀ q ∈ sa ++ sb, H' q.1 = some q.2) → ∀ q ∈ sa, H' q.1 = some q.2 := fun H' z q m => z q (List.mem_append_left _ m)
          have l2 : ∀ H' : Hp, (∀ q ∈ sa ++ sb, H' q.1 = some q.2) → ∀ q ∈ sb, H' q.1 = some q.2 := fun H' z q m => z q (List.mem_append_right _ m)
          refine ⟨aa, bb, us, ws, rfl, ?_⟩
          cases k with
          | true =>
            refine .inl ⟨q1 H1 fun q m => (s1 q m).1, q2 H1 fun q m => (s2 q m).1, e1 ρ1 H1 _ n1 (itR_pair (sa ++ sb) (walk_zip rfl) hn pd hsup fun H' z => ⟨q1 H' (l1 H' z), q2 H' (l2 H' z)⟩)⟩
          | false =>
            refine .inr ⟨q1 H1 fun q m => (s1 q m).1, q2 H1 fun q m => (s2 q m).1, e1 ρ1 H1 _ n1 (itR_pair (sa ++ sb) (walk_zT rfl) hn pd hsup fun H' z => ⟨q1 H' (l1 H' z), q2 H' (l2 H' z)⟩)⟩
        · exact e1.elim
  · exact e1.elim
theorem ci_zipE {f : AX} (hg : Gl X "zip") (hm : X.mg "zip" = none) (he : CA X c [e, e2] f) (hs : starEach [e, e2] X.env = (false, eval e X.env) :: starEach [e2] X.env := by rfl) (hpl : (backTo pos (starEach [e2] X.env)).any (·.1) = false := by rfl) :
    CI X c fzE (.Tuple elts kk tpos) (.Call (.Name "zip" p) [e, e2] [] pos) (iZip kseqE f) :=
  ci_zip (fun ρ h G Hb H v r k ds hr rv e => srcK_of hr rv e fun _ _ _ => trivial) hg hm he hs hpl
theorem ci_zipS {f : AX} (hg : Gl X "zip") (hm : X.mg "zip" = none) (he : CA X c [e, e2] f) (hs : starEach [e, e2] X.env = (false, eval e X.env) :: starEach [e2] X.env := by rfl) (hpl : (backTo pos (starEach [e2] X.env)).any (·.1) = false := by rfl) :
    CI X c (fzS c) (.Tuple elts kk tpos) (.Call (.Name "zip" p) [e, e2] [] pos) (iZip kseqS f) :=
  ci_zip (fun ρ h G Hb H v r k ds hr rv e => by
    have e2 : kseqE r = some (k, ds) := by
      cases r with
      | bor c => cases c <;> first | exact e | cases e
      | _ => exact e
    refine srcK_of hr rv e2 fun a o hm => ?_
    by_cases m : MutO o
    · rcases hm m with ⟨z, rfl⟩ | hz
      · cases e
      · exact .inl hz
    · exact .inr (.inl m)) hg hm he hs hpl
end
end Sh
set_option Elab.async false
set_option linter.all false
set_option maxRecDepth 100000
set_option maxHeartbeats 2000000
namespace Sh
open PySem PySem.Spec PyProof.Rows L2
/-! ### dict comprehensions -/
def dcL (g : TGx) (t : TX) (fk fv : EX) (Sw : Env') : List D → List (Key × D) → Hs → Option (List (Key × D) × Hs)
  | [], kd, h => some (kd, h)
  | d :: ds, kd, h => match g d Sw with
    | none => none
    | some S1 => match t S1 h with
      | some (.ok false h1) => dcL g t fk fv Sw ds kd h1
      | some (.ok true h1) => match fk S1 h1 with
        | some (.ok (.d k) h2) => match keyD k with
          | some ky => match fv S1 h2 with
            | some (.ok (.d v) h3) => if kd.length < sizeLine then dcL g t fk fv Sw ds (putD kd ky v) h3 else none
            | _ => none
          | none => none
        | _ => none
      | _ => none
def xDc (i : IX) (vs : List Nat) (g : TGx) (t : TX) (fk fv : EX) : EX := fun S h => andThen (i S h) fun ds h1 => match dcL g t fk fv (wipeS S vs) ds [] h1 with
  | some (kd, h2) => some (.ok (.new (.dct kd)) h2)
  | none => none
theorem upd_kd {K : PySem.W.Frag} {ρ : List Addr} {H : Hp} {q : Addr} {u o : HO} (hq : H q = some u) (m : MutO u) {ks : List (Key × V)} {kd : List (Key × D)} (s : KD K ρ H ks kd) : KD K ρ (upd H q o) ks kd := ⟨s.1, upd_dvs hq m s.2⟩
theorem Nx.kd {p : Pm} {ρ ρ1 : List Addr} {h h1 : Hs} {H H1 : Hp} (n : Nx p ρ H ρ1 h1 H1) (hr : HR p ρ h H) {ks : List (Key × V)} {kd : List (Key × D)} (q : KD p.K ρ H ks kd) : KD p.K ρ1 H1 ks kd := ⟨q.1, n.dvs hr q.2⟩
section
variable {X : Cx} {c : Cc} {e elt tg iter kx vx tg1 iter1 : Expr} {pos gpos p : Pos} {ifs ifs1 : List Expr}
theorem tDc_of {vs ts : List Nat} {i : IX} {g : TGx} {t : TX} {fk fv : EX} {σ : L2.St} {H : Hp} {Q : VK} {fz : FZ} (hts : ∀ k, k ∈ ts → k ∈ vs) (q : tE X.K c (xDc i vs g t fk fv) σ H Q) :
    tDc (tI X.K c fz i) (tG X.K c.calm ts g) (tT X.K c.calm t) (tE X.K c.calm fk) (tE X.K c.calm fv) vs σ H Q := by
  obtain ⟨G, ρ, S, h, s, e⟩ := q
  refine ⟨G, ρ, S, h, s, e.bind (rel := fun ρ' Hb H' J ds => ItR (c.p X.K) (fz G Hb) ρ' H' J ds) fun ds h1 ρ1 H1 J n1 it e1 => fun A hA => ?_⟩
  have zA : H A = none := n1.old hA s.hr
  have nA1 : A ∉ ρ1 := n1.hr.free hA
  have n2 : Nx (c.p X.K) ρ1 H1 ρ1 h1 (upd H1 A (.dK [])) := .alloc n1.hr n1.tb hA
  obtain ⟨Gd, Y, supp, w, hsup, hgd, hy⟩ := it
  let Fin : Nat → Nat → Hp → Prop := fun i m H' => m = ds.length - i ∧ i ≤ ds.length ∧ ∃ ρ' h' ks kd, Nx (c.p X.K) ρ H ρ' h' H' ∧ Lt X.K ρ1 H1 ρ' H' ∧ (∀ q ∈ supp, H' q.1 = some q.2 ∧ NoTbl q.2 ∧ q.1 ∉ ρ' ∧ q.1 ≠ A) ∧ A ∉ ρ' ∧ H' A = some (.dK ks) ∧ KD X.K ρ' H' ks kd ∧
    match dcL g t fk fv (wipeS S vs) (ds.drop i) kd h' with
    | none => False
    | some (kd', h'') => ∀ ρ'' H'' ks', Nx (c.p X.K) ρ H ρ'' h'' H'' → A ∉ ρ'' → H'' A = some (.dK ks') → KD X.K ρ'' H'' ks' kd' → Q (.ref A) H''
  refine ⟨Fin, ⟨ds.length, by simp, Nat.zero_le _, ρ1, h1, [], [], n1.trans n2, n2.lt n1.hr, fun q m => ?_, nA1, upd_same, ⟨rfl, .nil⟩, ?_⟩, ?_⟩
  · obtain ⟨a1, a2, a3, _⟩ := hsup q m
    have ne := ne_of_none a1 hA
    exact ⟨by rw [upd_ne ne]; exact a1, a2, a3, ne⟩
  · rw [List.drop_zero]
    have e1 := e1
    cases hL : dcL g t fk fv (wipeS S vs) ds [] h1 with
    | none => rw [hL] at e1; exact e1
    | some bh => rw [hL] at e1; exact fun ρ'' H'' av' n na ha r => e1 ρ'' H'' _ n ⟨A, rfl, zA, na, av', ha, r⟩
  rintro i m H' ⟨rfl, hi, ρ', h', ks, kd, n, l, hs, na, ha, racc, fin⟩
  have gd := hgd H' fun q m => (hs q m).1
  by_cases hlt : i < ds.length
  · refine .inr ⟨w.goes i H' hlt gd, fun H'' => Fin (i + 1) (ds.length - (i + 1)) H'', fun H'' z => ⟨_, by omega, z⟩, fun x H'' y => ?_⟩
    obtain ⟨n3, d, hd, dv⟩ := hy i ρ' h' H' x H'' l (fun q m => (hs q m).1) n.hr n.tb hlt (w.yields i H' x H'' hlt gd y)
    have ed : ds.drop i = d :: ds.drop (i + 1) := by
      obtain ⟨hlt, hv⟩ := List.getElem?_eq_some_iff.mp hd
      rw [List.drop_eq_getElem_cons hlt, hv]
    rw [ed] at fin
    simp only [dcL] at fin
    have n4 := n.trans n3
    have s4 := s.nx n4
    have sup : ∀ {ρa h_a Ha}, Nx (c.p X.K) ρ' H' ρa h_a Ha → (∀ q ∈ supp, Ha q.1 = some q.2 ∧ NoTbl q.2 ∧ q.1 ∉ ρa ∧ q.1 ≠ A) ∧ A ∉ ρa ∧ Ha A = some (.dK ks) ∧ KD X.K ρa Ha ks kd := fun {ρa h_a Ha} nn => by
      refine ⟨fun q m => ?_, nn.fresh ha na, nn.fr _ _ ha (by intro ps z; cases z) na, nn.kd n.hr racc⟩
      obtain ⟨a1, a2, a3, a4⟩ := hs q m
      exact ⟨nn.fr _ _ a1 a2 a3, a2, nn.fresh a1 a3, a4⟩
    refine ⟨G, ρ', wipeS S vs, h', d, s4.wipe vs, dv, ?_⟩
    cases hg : g d (wipeS S vs) with
    | none => rw [hg] at fin; exact fin
    | some S1 =>
      rw [hg] at fin
      simp only at fin
      intro σ2 hl ho s5
      refine ⟨wipe_same hl fun k hk => ho k fun z => hk (hts k z), G, ρ', S1, h', s5, ?_⟩
      cases ht : t S1 h' with
      | none => rw [ht] at fin; exact fin
      | some r =>
        rw [ht] at fin
        cases r with
        | exc cc h3 => exact fin.elim
        | ok b h3 =>
          intro ρ3 H3 b' n5 eb
          cases eb
          have n35 := n3.trans n5
          cases b with
          | false =>
            obtain ⟨q1, q2, q3, q4⟩ := sup n35
            exact iteF ⟨rfl, hlt, ρ3, h3, ks, kd, n.trans n35, l.trans (n35.lt n.hr), q1, q2, q3, q4, fin⟩
          | true =>
            refine iteT ⟨G, ρ3, S1, h3, s5.nx n5, ?_⟩
            simp only at fin
            cases hf : fk S1 h3 with
            | none => rw [hf] at fin; exact fin
            | some r =>
              rw [hf] at fin
              cases r with
              | exc cc h4 => exact fin.elim
              | ok r h4 =>
                intro ρ4 H4 v n6 rv
                have n36 := n35.trans n6
                cases r with
                | d kx =>
                  simp only at fin
                  cases hk : keyD kx with
                  | none => rw [hk] at fin; exact fin.elim
                  | some ky =>
                    rw [hk] at fin
                    simp only at fin
                    have ek := key_of' rv hk
                    refine ⟨G, ρ4, S1, h4, (s5.nx n5).nx n6, ?_⟩
                    cases hv : fv S1 h4 with
                    | none => rw [hv] at fin; exact fin
                    | some r =>
                      rw [hv] at fin
                      cases r with
                      | exc cc h5 => exact fin.elim
                      | ok r h5 =>
                        intro ρ5 H5 z n7 rz
                        have n37 := n36.trans n7
                        obtain ⟨q1, q2, q3, q4⟩ := sup n37
                        cases r with
                        | d zd =>
                          simp only at fin
                          by_cases hk : kd.length < sizeLine
                          · rw [if_pos hk] at fin
                            refine ⟨ks, ky, ek, q3, by rw [q4.length]; exact hk, rfl, hlt, ρ5, h5, putK ks ky z, putD kd ky zd, (n.trans n37).wr zA q3 trivial q2, (l.trans (n37.lt n.hr)).trans (upd_lt q3 trivial), fun q m => ?_, q2, upd_same, ?_, fin⟩
                            · obtain ⟨a1, a2, a3, a4⟩ := q1 q m
                              exact ⟨by rw [upd_ne a4]; exact a1, a2, a3, a4⟩
                            · exact (upd_kd q3 trivial q4).put ky (upd_dv q3 trivial rz)
                          · rw [if_neg hk] at fin; exact fin.elim
                        | _ => exact fin.elim
                | _ => exact fin.elim
  · have e : i = ds.length := by omega
    subst e
    rw [List.drop_length] at fin
    exact .inl ⟨w.stops H' gd, fin ρ' H' ks n na ha racc⟩
theorem ce_dc {scope : Scope} {own : List (Str × Nat)} {ts : List Nat} {i : IX} {g : TGx} {t : TX} {fk fv : EX} {fz : FZ} (hc : X.calm = true) (hN : X.N.Nodup) (ok : BlkOk X.N X.env.scope scope own) (hi : CI X c fz tg iter i)
    (hg : LFam X scope fun G => CG G c.calm tg ts g) (ht : LFam X scope fun G => CTs G c.calm ifs t) (hk : LFam X scope fun G => CE G c.calm kx fk) (he : LFam X scope fun G => CE G c.calm vx fv) (hts : ∀ k, k ∈ ts → k ∈ own.map (·.2)) (hs : ∀ x, foldedSetIterable iter X.env x = pure x := by intro _; rfl) :
    CE X c (.DictComp kx vx [⟨tg, iter, ifs, 0⟩] scope pos) (xDc i (own.map (·.2)) g t fk fv) :=
  pe_weak (pe_dc (g := tG X.K c.calm ts g) (tt := tT X.K c.calm t) (tk := tE X.K c.calm fk) (tv := tE X.K c.calm fv) hc hN hi ok (fun a b d e k => hg a b d e k) (fun a b d e k => ht a b d e k) (fun a b d e k => hk a b d e k) (fun a b d e k => he a b d e k) hs) fun σ H Q q => tDc_of hts q
end
/-! ### list comprehensions of two clauses -/
section
variable {p : Pm} {ρ0 ρ ρ1 ρ2 : List Addr} {G : List (Addr × HO)} {S S1 : Env'} {σ σ2 : L2.St} {h h1 h2 : Hs} {H0 H H1 H2 : Hp}
/-- an object of no slot is written -/
theorem Stt.wrA (s : Stt p ρ0 H0 G ρ S h σ H) {A : Addr} {w o : HO} (hA : H A = some w) (mw : MutO w) (zA : H0 A = none) (nA : A ∉ ρ) (gA : ∀ q ∈ G, q.1 ≠ A) (own : ∀ (i : Nat) k a, S[i]? = some (.own k) → σ[i]? = some (some (V.ref a)) → a ≠ A) : Stt p ρ0 H0 G ρ S h σ (upd H A o) := by
  refine ⟨⟨s.hr.len, s.hr.nd, fun j b x hj hx => upd_om hA mw (fun z => nA (by rw [← z]; exact List.mem_of_getElem? hj)) (s.hr.ob j b x hj hx)⟩, upd_tabs hA mw s.tb, s.pre, fun b x e nt nb => ?_, s.nw, fun b ps e => ?_, fun q hq => ?_, s.len, fun j t ht => ?_, s.ap⟩
  · rw [upd_ne (ne_of_none e zA)]
    exact s.fr b x e nt nb
  · obtain ⟨qs, e1⟩ := s.tk b ps e
    exact ⟨qs, by rw [upd_ne (ne_of_none e zA)]; exact e1⟩
  · obtain ⟨e, nt, nb⟩ := s.gh q hq
    exact ⟨by rw [upd_ne (gA q hq)]; exact e, nt, nb⟩
  · obtain ⟨o1, e1, v⟩ := s.sl j t ht
    refine ⟨o1, e1, ?_⟩
    cases t with
    | none => trivial
    | d x => obtain ⟨v, e, r⟩ := v; exact ⟨v, e, upd_dv hA mw r⟩
    | own c =>
      obtain ⟨b, e, m2, z2, nb, g2⟩ := v
      subst e
      exact ⟨b, rfl, upd_cm hA mw (own j c b ht e1) m2, z2, nb, g2⟩
    | bor c =>
      obtain ⟨b, e, r⟩ := v
      refine ⟨b, e, ?_⟩
      have nba : Kn G H0 b → b ≠ A := fun kn q => by
        rcases kn with kn | ⟨q2, hq2, e2⟩
        · exact kn (by rw [q]; exact zA)
        · exact gA q2 hq2 (e2.trans q)
      cases c with
      | lst ds => obtain ⟨vs, r, e1, nb, kn⟩ := r; exact ⟨vs, upd_dvs hA mw r, by rw [upd_ne (nba kn)]; exact e1, nb, kn⟩
      | dct kd => obtain ⟨vs, ⟨r1, r2⟩, e1, nb, kn⟩ := r; exact ⟨vs, ⟨r1, upd_dvs hA mw r2⟩, by rw [upd_ne (nba kn)]; exact e1, nb, kn⟩
      | fz ds =>
        obtain ⟨vs, r, q | ⟨⟨ob, e1⟩, nb, kn⟩⟩ := r
        · exact ⟨vs, upd_dvs hA mw r, .inl q⟩
        · exact ⟨vs, upd_dvs hA mw r, .inr ⟨⟨ob, by rw [upd_ne (nba kn)]; exact e1⟩, nb, kn⟩⟩
theorem wipeS_get (S : Env') (j : Nat) (t : Sl) (ht : t ≠ .none) : ∀ vs : List Nat, (wipeS S vs)[j]? = some t → j ∉ vs ∧ S[j]? = some t
  | [], e => ⟨by simp, e⟩
  | v :: vs, e => by
    unfold wipeS at e
    rw [List.getElem?_set] at e
    split at e
    · split at e
      · cases e; exact absurd rfl ht
      · cases e
    · rename_i hv
      obtain ⟨h1, h2⟩ := wipeS_get S j t ht vs e
      exact ⟨fun m => (List.mem_cons.mp m).elim (fun z => hv z.symm) h1, h2⟩
/-- a target makes no container a slot's own -/
def KeepO (g : TGx) : Prop := ∀ d S S1, g d S = some S1 → ∀ (i : Nat) k, S1[i]? = some (.own k) → S[i]? = some (.own k)
def KeepOs (g : TGsx) : Prop := ∀ ds S S1, g ds S = some S1 → ∀ (i : Nat) k, S1[i]? = some (.own k) → S[i]? = some (.own k)
theorem ko_nm (j : Nat) : KeepO (gNm j) := fun d S S1 e i k h => by
  cases e
  rw [List.getElem?_set] at h
  split at h
  · split at h <;> cases h
  · exact h
theorem ko_nil : KeepOs gNilD := fun ds S S1 e i k h => by
  cases ds with
  | nil => cases e; exact h
  | cons d ds => cases e
theorem ko_cons {g : TGx} {gs : TGsx} (h1 : KeepO g) (h2 : KeepOs gs) : KeepOs (gConsD g gs) := fun ds S S1 e i k h => by
  cases ds with
  | nil => cases e
  | cons d ds =>
    simp only [gConsD] at e
    cases q : g d S with
    | none => rw [q] at e; cases e
    | some S2 => rw [q] at e; exact h1 d S S2 q i k (h2 ds S2 S1 e i k h)
theorem ko_tup {n : Nat} {gs : TGsx} (h2 : KeepOs gs) : KeepO (gTupD n gs) := fun d S S1 e i k h => by
  cases d with
  | tup ds =>
    simp only [gTupD] at e
    split at e
    · exact h2 ds S S1 e i k h
    · cases e
  | _ => cases e
/-- the own slots behind a target, in a block -/
theorem own_old {A : Addr} {vs ts : List Nat} {g : TGx} {d : D} (s : Stt p ρ0 H0 G ρ S h σ H) (zA : H A = none) (ko : KeepO g) (hts : ∀ k, k ∈ ts → k ∈ vs) (hg : g d (wipeS S vs) = some S1) (ho : ∀ k, k ∉ ts → σ2[k]? = (wipe σ vs)[k]?) :
    ∀ (i : Nat) k a, S1[i]? = some (.own k) → σ2[i]? = some (some (V.ref a)) → a ≠ A := fun i k a h1 h2 e => by
  obtain ⟨h3, h4⟩ := wipeS_get S i (.own k) (fun z => by cases z) vs (ko d _ S1 hg i k h1)
  rw [ho i fun z => h3 (hts i z), wipe_get, if_neg fun z => h3 z.1] at h2
  obtain ⟨o, e1, b, e2, m, _⟩ := s.sl i _ h4
  rw [h2] at e1
  cases e1
  cases e2
  obtain ⟨u, hu, _⟩ := m.mut
  rw [e, zA] at hu
  cases hu
end

def lc2L (g : TGx) (t : TX) (i1 : IX) (vs1 : List Nat) (g1 : TGx) (t1 : TX) (f : EX) (Sw : Env') : List D → Nat → Hs → Option (List D × Hs)
  | [], _, h => some ([], h)
  | d :: ds, k, h => match g d Sw with
    | none => none
    | some S1 => match t S1 h with
      | some (.ok false h1) => lc2L g t i1 vs1 g1 t1 f Sw ds k h1
      | some (.ok true h1) => match i1 S1 h1 with
        | some (.ok es h2) => match lcL g1 t1 f (wipeS S1 vs1) es k h2 with
          | some (ys, h3) => match lc2L g t i1 vs1 g1 t1 f Sw ds (k + ys.length) h3 with
            | some (zs, h4) => some (ys ++ zs, h4)
            | none => none
          | none => none
        | _ => none
      | _ => none
def xLc2 (i : IX) (vs : List Nat) (g : TGx) (t : TX) (i1 : IX) (vs1 : List Nat) (g1 : TGx) (t1 : TX) (f : EX) : EX := fun S h => andThen (i S h) fun ds h1 => match lc2L g t i1 vs1 g1 t1 f (wipeS S vs) ds 0 h1 with
  | some (xs, h2) => some (.ok (.new (.lst xs)) h2)
  | none => none
section
variable {X : Cx} {c : Cc} {e elt tg iter kx vx tg1 iter1 : Expr} {pos gpos p : Pos} {ifs ifs1 : List Expr} {h : Hs}
/-- the inner loop -/
theorem lc2_in {G : List (Addr × HO)} {S : Env'} {σ2 : L2.St} {vs1 ts1 : List Nat} {g1 : TGx} {t1 : TX} {f : EX} {ρ ρ4 : List Addr} {h4 : Hs} {H H3 H4 : Hp} {A : Addr} {J1 : It} {es : List D} {av : List V} {acc : List D} {S1 : Env'} {Nxt : Hp → Prop} {fz : Addr → HO → Prop} {supp : List (Addr × HO)} {ρ3 : List Addr} {h3 : Hs}
    (hts1 : ∀ k, k ∈ ts1 → k ∈ vs1) (zA : H A = none) (hr : HR (c.p X.K) ρ h H) (n4 : Nx (c.p X.K) ρ H ρ4 h4 H4) (s4 : Stt (c.p X.K) c.ρ0 c.H0 G ρ4 S1 h4 σ2 H4) (it : ItR (c.p X.K) fz ρ4 H4 J1 es) (hfz : ∀ a o, H4 a = some o → fz a o → a ≠ A) (z0 : c.H0 A = none) (gA : ∀ q ∈ G, q.1 ≠ A) (own : ∀ (i : Nat) k a, S1[i]? = some (.own k) → σ2[i]? = some (some (V.ref a)) → a ≠ A)
    (na : A ∉ ρ4) (ha : H4 A = some (.lst av)) (racc : DVs X.K ρ4 H4 av acc) (hsup : ∀ q ∈ supp, H4 q.1 = some q.2 ∧ NoTbl q.2 ∧ q.1 ∉ ρ4 ∧ q.1 ≠ A)
    (fin : match lcL g1 t1 f (wipeS S1 vs1) es acc.length h4 with
      | none => False
      | some (ys, h5) => ∀ ρ5 H5 av', Nx (c.p X.K) ρ H ρ5 h5 H5 → Lt X.K ρ4 H4 ρ5 H5 → (∀ q ∈ supp, H5 q.1 = some q.2 ∧ NoTbl q.2 ∧ q.1 ∉ ρ5 ∧ q.1 ≠ A) → A ∉ ρ5 → H5 A = some (.lst av') → DVs X.K ρ5 H5 av' (acc ++ ys) → Nxt H5) :
    ∃ W1 : Nat → Nat → Hp → Prop, (∃ m, W1 0 m H4) ∧ ∀ j k H, W1 j k H →
      (J1.stop j H ∧ Nxt H) ∨ (J1.go j H ∧ ∃ Nx1 : Hp → Prop, (∀ H', Nx1 H' → ∃ k', k' < k ∧ W1 (j + 1) k' H') ∧ ∀ x H', J1.yld j H x H' → tG X.K c.calm ts1 g1 x (wipe σ2 vs1) H' fun σ3 H5 => wipe σ3 vs1 = wipe σ2 vs1 ∧ tT X.K c.calm t1 σ3 H5 fun b H6 =>
        if b = true then tE X.K c.calm f σ3 H6 fun y H7 => ∃ acc, H7 A = some (.lst acc) ∧ acc.length < sizeLine ∧ Nx1 (upd H7 A (.lst (acc ++ [y]))) else Nx1 H6) := by
  obtain ⟨Gd, Y, supp1, w, hsup1, hgd, hy⟩ := it
  let Fin : Nat → Nat → Hp → Prop := fun i m H' => m = es.length - i ∧ i ≤ es.length ∧ ∃ ρ' h' av' acc', Nx (c.p X.K) ρ H ρ' h' H' ∧ Lt X.K ρ4 H4 ρ' H' ∧ Stt (c.p X.K) c.ρ0 c.H0 G ρ' S1 h' σ2 H' ∧ (∀ q ∈ supp, H' q.1 = some q.2 ∧ NoTbl q.2 ∧ q.1 ∉ ρ' ∧ q.1 ≠ A) ∧ (∀ q ∈ supp1, H' q.1 = some q.2 ∧ NoTbl q.2 ∧ q.1 ∉ ρ' ∧ q.1 ≠ A) ∧ A ∉ ρ' ∧ H' A = some (.lst av') ∧ DVs X.K ρ' H' av' acc' ∧
    match lcL g1 t1 f (wipeS S1 vs1) (es.drop i) acc'.length h' with
    | none => False
    | some (ys, h5) => ∀ ρ5 H5 av'', Nx (c.p X.K) ρ H ρ5 h5 H5 → Lt X.K ρ4 H4 ρ5 H5 → (∀ q ∈ supp, H5 q.1 = some q.2 ∧ NoTbl q.2 ∧ q.1 ∉ ρ5 ∧ q.1 ≠ A) → A ∉ ρ5 → H5 A = some (.lst av'') → DVs X.K ρ5 H5 av'' (acc' ++ ys) → Nxt H5
  refine ⟨Fin, ⟨es.length, by simp, Nat.zero_le _, ρ4, h4, av, acc, n4, .refl, s4, hsup, fun q m => ?_, na, ha, racc, by rw [List.drop_zero]; exact fin⟩, ?_⟩
  · obtain ⟨a1, a2, a3, a4⟩ := hsup1 q m
    exact ⟨a1, a2, a3, hfz _ _ a1 a4⟩
  rintro i m H' ⟨rfl, hi, ρ', h', av, acc, n, l, s, hs0, hs, na, ha, racc, fin⟩
  have gd := hgd H' fun q m => (hs q m).1
  by_cases hlt : i < es.length
  · refine .inr ⟨w.goes i H' hlt gd, fun H'' => Fin (i + 1) (es.length - (i + 1)) H'', fun H'' z => ⟨_, by omega, z⟩, fun x H'' y => ?_⟩
    obtain ⟨n3, d, hd, dv⟩ := hy i ρ' h' H' x H'' l (fun q m => (hs q m).1) n.hr n.tb hlt (w.yields i H' x H'' hlt gd y)
    have ed : es.drop i = d :: es.drop (i + 1) := by
      obtain ⟨hlt, hv⟩ := List.getElem?_eq_some_iff.mp hd
      rw [List.drop_eq_getElem_cons hlt, hv]
    rw [ed] at fin
    simp only [lcL] at fin
    have n4 := n.trans n3
    have sup : ∀ {ρa h_a Ha}, Nx (c.p X.K) ρ' H' ρa h_a Ha → (∀ q ∈ supp, Ha q.1 = some q.2 ∧ NoTbl q.2 ∧ q.1 ∉ ρa ∧ q.1 ≠ A) ∧ (∀ q ∈ supp1, Ha q.1 = some q.2 ∧ NoTbl q.2 ∧ q.1 ∉ ρa ∧ q.1 ≠ A) ∧ A ∉ ρa ∧ Ha A = some (.lst av) ∧ DVs X.K ρa Ha av acc := fun {ρa h_a Ha} nn => by
      refine ⟨fun q m => ?_, fun q m => ?_, nn.fresh ha na, nn.fr _ _ ha (by intro ps z; cases z) na, nn.dvs n.hr racc⟩
      · obtain ⟨a1, a2, a3, a4⟩ := hs0 q m
        exact ⟨nn.fr _ _ a1 a2 a3, a2, nn.fresh a1 a3, a4⟩
      · obtain ⟨a1, a2, a3, a4⟩ := hs q m
        exact ⟨nn.fr _ _ a1 a2 a3, a2, nn.fresh a1 a3, a4⟩
    have s4 := s.nx n3
    refine ⟨G, ρ', wipeS S1 vs1, h', d, s4.wipe vs1, dv, ?_⟩
    cases hg : g1 d (wipeS S1 vs1) with
    | none => rw [hg] at fin; exact fin
    | some S2 =>
      rw [hg] at fin
      simp only at fin
      intro σ3 hl ho s5
      refine ⟨wipe_same hl fun k hk => ho k fun z => hk (hts1 k z), G, ρ', S2, h', s5, ?_⟩
      cases ht : t1 S2 h' with
      | none => rw [ht] at fin; exact fin
      | some r =>
        rw [ht] at fin
        cases r with
        | exc cc h3 => exact fin.elim
        | ok b h3 =>
          intro ρ3 H3 b' n5 eb
          cases eb
          have n35 := n3.trans n5
          cases b with
          | false =>
            obtain ⟨q0, q1, q2, q3, q4⟩ := sup n35
            exact iteF ⟨rfl, hlt, ρ3, h3, av, acc, n.trans n35, l.trans (n35.lt n.hr), s.nx n35, q0, q1, q2, q3, q4, fin⟩
          | true =>
            refine iteT ⟨G, ρ3, S2, h3, s5.nx n5, ?_⟩
            simp only at fin
            cases hf : f S2 h3 with
            | none => rw [hf] at fin; exact fin
            | some r =>
              rw [hf] at fin
              cases r with
              | exc cc h4 => exact fin.elim
              | ok r h4 =>
                intro ρ4 H4 v n6 rv
                have n36 := n35.trans n6
                obtain ⟨q0, q1, q2, q3, q4⟩ := sup n36
                cases r with
                | d vd =>
                  simp only at fin
                  split at fin
                  · exact fin.elim
                  · rename_i xs h'' heq
                    split at heq
                    · rename_i hk
                      have nw := (n.trans n36).wr (o := .lst (av ++ [v])) zA q3 trivial q2
                      refine ⟨av, q3, by rw [q4.length]; exact hk, rfl, hlt, ρ4, h4, av ++ [v], acc ++ [vd], nw, (l.trans (n36.lt n.hr)).trans (upd_lt q3 trivial), ?_, fun q m => ?_, fun q m => ?_, q2, upd_same, ?_, ?_⟩
                      · exact (s.nx n36).wrA q3 trivial z0 q2 gA own
                      · obtain ⟨a1, a2, a3, a4⟩ := q0 q m
                        exact ⟨by rw [upd_ne a4]; exact a1, a2, a3, a4⟩
                      · obtain ⟨a1, a2, a3, a4⟩ := q1 q m
                        exact ⟨by rw [upd_ne a4]; exact a1, a2, a3, a4⟩
                      · exact (upd_dvs q3 trivial q4).append (.cons (upd_dv q3 trivial rv) .nil)
                      · rw [List.length_append, List.length_singleton]
                        cases hL : lcL g1 t1 f (wipeS S1 vs1) (es.drop (i + 1)) (acc.length + 1) h4 with
                        | none => rw [hL] at heq; cases heq
                        | some z =>
                          obtain ⟨ys, h5⟩ := z
                          rw [hL] at heq
                          cases heq
                          exact fun ρ'' H'' av' a b k c' d' e' => fin ρ'' H'' av' a b k c' d' (by rw [List.append_assoc] at e'; exact e')
                    · cases heq
                | _ => exact fin.elim
  · have e : i = es.length := by omega
    subst e
    rw [List.drop_length] at fin
    exact .inl ⟨w.stops H' gd, fin ρ' H' av n l hs0 na ha (by rw [List.append_nil]; exact racc)⟩
theorem tLc2_of {vs ts vs1 ts1 : List Nat} {i i1 : IX} {g g1 : TGx} {t t1 : TX} {f : EX} {σ : L2.St} {H : Hp} {Q : VK} {fz : FZ} (ko : KeepO g) (hts : ∀ k, k ∈ ts → k ∈ vs) (hts1 : ∀ k, k ∈ ts1 → k ∈ vs1) (q : tE X.K c (xLc2 i vs g t i1 vs1 g1 t1 f) σ H Q) :
    tLc2 (tI X.K c fz i) (tG X.K c.calm ts g) (tT X.K c.calm t) (tI X.K c.calm (fzS c.calm) i1) (tG X.K c.calm ts1 g1) (tT X.K c.calm t1) (tE X.K c.calm f) vs vs1 σ H Q := by
  obtain ⟨G, ρ, S, h, s, e⟩ := q
  refine ⟨G, ρ, S, h, s, e.bind (rel := fun ρ' Hb H' J ds => ItR (c.p X.K) (fz G Hb) ρ' H' J ds) fun ds h1 ρ1 H1 J n1 it e1 => fun A hA => ?_⟩
  have zA : H A = none := n1.old hA s.hr
  obtain ⟨z0, _, gA⟩ := s.old zA
  have nA1 : A ∉ ρ1 := n1.hr.free hA
  have n2 : Nx (c.p X.K) ρ1 H1 ρ1 h1 (upd H1 A (.lst [])) := .alloc n1.hr n1.tb hA
  obtain ⟨Gd, Y, supp, w, hsup, hgd, hy⟩ := it
  let Fin : Nat → Nat → Hp → Prop := fun i m H' => m = ds.length - i ∧ i ≤ ds.length ∧ ∃ ρ' h' av acc, Nx (c.p X.K) ρ H ρ' h' H' ∧ Lt X.K ρ1 H1 ρ' H' ∧ (∀ q ∈ supp, H' q.1 = some q.2 ∧ NoTbl q.2 ∧ q.1 ∉ ρ' ∧ q.1 ≠ A) ∧ A ∉ ρ' ∧ H' A = some (.lst av) ∧ DVs X.K ρ' H' av acc ∧
    match lc2L g t i1 vs1 g1 t1 f (wipeS S vs) (ds.drop i) acc.length h' with
    | none => False
    | some (xs, h'') => ∀ ρ'' H'' av', Nx (c.p X.K) ρ H ρ'' h'' H'' → A ∉ ρ'' → H'' A = some (.lst av') → DVs X.K ρ'' H'' av' (acc ++ xs) → Q (.ref A) H''
  refine ⟨Fin, ⟨ds.length, by simp, Nat.zero_le _, ρ1, h1, [], [], n1.trans n2, n2.lt n1.hr, fun q m => ?_, nA1, upd_same, .nil, ?_⟩, ?_⟩
  · obtain ⟨a1, a2, a3, _⟩ := hsup q m
    have ne := ne_of_none a1 hA
    exact ⟨by rw [upd_ne ne]; exact a1, a2, a3, ne⟩
  · rw [List.drop_zero]
    have e1 := e1
    cases hL : lc2L g t i1 vs1 g1 t1 f (wipeS S vs) ds 0 h1 with
    | none => rw [hL] at e1; exact e1
    | some bh => rw [hL] at e1; exact fun ρ'' H'' av' n na ha r => e1 ρ'' H'' _ n ⟨A, rfl, zA, na, av', ha, r⟩
  rintro i m H' ⟨rfl, hi, ρ', h', av, acc, n, l, hs, na, ha, racc, fin⟩
  have gd := hgd H' fun q m => (hs q m).1
  by_cases hlt : i < ds.length
  · refine .inr ⟨w.goes i H' hlt gd, fun H'' => Fin (i + 1) (ds.length - (i + 1)) H'', fun H'' z => ⟨_, by omega, z⟩, fun x H'' y => ?_⟩
    obtain ⟨n3, d, hd, dv⟩ := hy i ρ' h' H' x H'' l (fun q m => (hs q m).1) n.hr n.tb hlt (w.yields i H' x H'' hlt gd y)
    have ed : ds.drop i = d :: ds.drop (i + 1) := by
      obtain ⟨hlt, hv⟩ := List.getElem?_eq_some_iff.mp hd
      rw [List.drop_eq_getElem_cons hlt, hv]
    rw [ed] at fin
    simp only [lc2L] at fin
    have n4 := n.trans n3
    have s4 := s.nx n4
    have sup : ∀ {ρa h_a Ha}, Nx (c.p X.K) ρ' H' ρa h_a Ha → (∀ q ∈ supp, Ha q.1 = some q.2 ∧ NoTbl q.2 ∧ q.1 ∉ ρa ∧ q.1 ≠ A) ∧ A ∉ ρa ∧ Ha A = some (.lst av) ∧ DVs X.K ρa Ha av acc := fun {ρa h_a Ha} nn => by
      refine ⟨fun q m => ?_, nn.fresh ha na, nn.fr _ _ ha (by intro ps z; cases z) na, nn.dvs n.hr racc⟩
      obtain ⟨a1, a2, a3, a4⟩ := hs q m
      exact ⟨nn.fr _ _ a1 a2 a3, a2, nn.fresh a1 a3, a4⟩
    refine ⟨G, ρ', wipeS S vs, h', d, s4.wipe vs, dv, ?_⟩
    cases hg : g d (wipeS S vs) with
    | none => rw [hg] at fin; exact fin
    | some S1 =>
      rw [hg] at fin
      simp only at fin
      intro σ2 hl ho s5
      have own := own_old s zA ko hts hg ho
      refine ⟨wipe_same hl fun k hk => ho k fun z => hk (hts k z), G, ρ', S1, h', s5, ?_⟩
      cases ht : t S1 h' with
      | none => rw [ht] at fin; exact fin
      | some r =>
        rw [ht] at fin
        cases r with
        | exc cc h3 => exact fin.elim
        | ok b h3 =>
          intro ρ3 H3 b' n5 eb
          cases eb
          have n35 := n3.trans n5
          cases b with
          | false =>
            obtain ⟨q1, q2, q3, q4⟩ := sup n35
            exact iteF ⟨rfl, hlt, ρ3, h3, av, acc, n.trans n35, l.trans (n35.lt n.hr), q1, q2, q3, q4, fin⟩
          | true =>
            have s6 := s5.nx n5
            refine iteT ⟨G, ρ3, S1, h3, s6, ?_⟩
            simp only at fin
            cases hf : i1 S1 h3 with
            | none => rw [hf] at fin; exact fin
            | some r =>
              rw [hf] at fin
              cases r with
              | exc cc h4 => exact fin.elim
              | ok es h4 =>
                intro ρ4 H4 J1 n6 it1
                simp only at fin
                have n36 := n35.trans n6
                obtain ⟨q1, q2, q3, q4⟩ := sup n36
                have ltA := l.trans (n36.lt n.hr)
                refine lc2_in (S := S) (G := G) (ρ3 := ρ3) (h3 := h3) (H3 := H3) (supp := supp) (av := av) (acc := acc) hts1 zA s.hr (n.trans n36) (s6.nx n6) it1 (fun a o ea fa => ?_) z0 gA own q2 q3 q4 q1 ?_
                · rcases fa with fa | fa | fa
                  · intro e
                    have hA3 : H3 A = some (.lst av) := (sup n35).2.2.1
                    rw [e, hA3] at fa; cases fa
                  · intro e
                    rw [e, q3] at ea
                    cases ea
                    exact fa trivial
                  · intro e
                    rcases fa with kn | ⟨q2, hq2, e2⟩
                    · exact kn (by rw [e]; exact z0)
                    · exact gA q2 hq2 (e2.trans e)
                · cases hL : lcL g1 t1 f (wipeS S1 vs1) es acc.length h4 with
                  | none => rw [hL] at fin; exact fin
                  | some z =>
                    obtain ⟨ys, h5⟩ := z
                    rw [hL] at fin
                    simp only at fin
                    intro ρ5 H5 av' n7 l7 sp7 na7 ha7 r7
                    refine ⟨rfl, hlt, ρ5, h5, av', acc ++ ys, n7, ltA.trans l7, sp7, na7, ha7, r7, ?_⟩
                    rw [List.length_append]
                    cases hM : lc2L g t i1 vs1 g1 t1 f (wipeS S vs) (ds.drop (i + 1)) (acc.length + ys.length) h5 with
                    | none => rw [hM] at fin; exact fin
                    | some z =>
                      obtain ⟨zs, h6⟩ := z
                      rw [hM] at fin
                      exact fun ρ'' H'' av'' a b c' d' => fin ρ'' H'' av'' a b c' (by rw [List.append_assoc] at d'; exact d')
  · have e : i = ds.length := by omega
    subst e
    rw [List.drop_length] at fin
    exact .inl ⟨w.stops H' gd, fin ρ' H' av n na ha (by rw [List.append_nil]; exact racc)⟩
theorem ce_lc2 {scope : Scope} {own : List (Str × Nat)} {vs1 ts ts1 : List Nat} {i i1 : IX} {g g1 : TGx} {t t1 : TX} {f : EX} {fz : FZ} (hc : X.calm = true) (hN : X.N.Nodup) (ok : BlkOk X.N X.env.scope scope own) (hv : ∀ i ∈ vs1, i ∈ own.map (·.2)) (ko : KeepO g) (hi : CI X c fz tg iter i)
    (hg : LFam X scope fun G => CG G c.calm tg ts g) (ht : LFam X scope fun G => CTs G c.calm ifs t) (hi1 : LFam X scope fun G => CI G c.calm (fzS c.calm) tg1 iter1 i1) (hg1 : LFam X scope fun G => CG G c.calm tg1 ts1 g1) (ht1 : LFam X scope fun G => CTs G c.calm ifs1 t1)
    (he : LFam X scope fun G => CE G c.calm elt f) (hts : ∀ k, k ∈ ts → k ∈ own.map (·.2)) (hts1 : ∀ k, k ∈ ts1 → k ∈ vs1) (hs : ∀ x, foldedSetIterable iter X.env x = pure x := by intro _; rfl) (hs1 : ∀ env x, foldedSetIterable iter1 env x = pure x := by intro _ _; rfl) :
    CE X c (.ListComp elt [⟨tg, iter, ifs, 0⟩, ⟨tg1, iter1, ifs1, 0⟩] scope pos) (xLc2 i (own.map (·.2)) g t i1 vs1 g1 t1 f) :=
  pe_weak (pe_lc2 (g := tG X.K c.calm ts g) (tt := tT X.K c.calm t) (wi1 := tI X.K c.calm (fzS c.calm) i1) (g1 := tG X.K c.calm ts1 g1) (tt1 := tT X.K c.calm t1) (te := tE X.K c.calm f) hc hN hi ok hv (fun a b d e k => hg a b d e k) (fun a b d e k => ht a b d e k)
    (fun a b d e k => hi1 a b d e k) (fun a b d e k => hg1 a b d e k) (fun a b d e k => ht1 a b d e k) (fun a b d e k => he a b d e k) hs hs1) fun σ H Q q => tLc2_of ko hts hts1 q
end
end Sh
set_option Elab.async false
set_option linter.all false
set_option maxRecDepth 100000
set_option maxHeartbeats 2000000
/-! Sh24: generator expressions consumed by what keeps a list meanwhile. -/
namespace Sh
open PySem PySem.Spec PyProof.Rows L2
/-- what holds while the generator g at a sleeps -/
structure RInv (X : Cx) (pins : List (Addr × Obj)) (σ : L2.St) (a : Addr) (g : Nat) (R : Hp → Shared → Prop) : Prop where
  gen : ∀ H s, R H s → s.heap.IsGen a g
  inv : ∀ H s, R H s → Inv X pins σ H s
  gens : ∀ H s g', R H s → AllBare g' → R H { s with gens := g' }
  kept : ∀ H s h' t, R H s → (∀ b u, s.heap.get? b = some u → h'.get? b = some u) → R H { s with heap := h', toks := t }
  laid : ∀ H s L o h' t, R H s → (∀ b u, s.heap.get? b = some u → h'.get? b = some u) → s.heap.objs.size ≤ L → ObjOk X.prog X.w (upd H L o) h' L o → R (upd H L o) { s with heap := h', toks := t }
  write : ∀ H s L o h' t, R H s → Mut (H L) → (∀ b u, b ≠ L → s.heap.get? b = some u → h'.get? b = some u) → (∃ u, h'.get? L = some u) → ObjOk X.prog X.w (upd H L o) h' L o → R (upd H L o) { s with heap := h', toks := t }
abbrev YNT := Nat → (Hp → Prop) → V → Hp → Prop
abbrev DNT := Nat → Hp → Prop
def RPx (X : Cx) (pins : List (Addr × Obj)) (σ : L2.St) (Dn : DNT) : Nat → Shared → Shared → Prop := fun n _ s => ∃ H', Inv X pins σ H' s ∧ Dn n H'
def YPx (X : Cx) (pins : List (Addr × Obj)) (σ : L2.St) (a : Addr) (g : Nat) (YQ : YNT) : Protocol := fun n _ v s kap =>
  ∃ R y H' N, RInv X pins σ a g R ∧ RelV y v ∧ R H' s ∧ YQ n N y H' ∧ ∀ s'' H'', R H'' s'' → N H'' → kap (.send .none) s''
def GoesX (X : Cx) (pins : List (Addr × Obj)) (σ : L2.St) (a : Addr) (g : Nat) (Dn : DNT) (YQ : YNT) (B : Around) (n : Nat) (gs : GenState) (R : Hp → Shared → Prop) (N : Hp → Prop) : Prop :=
  ∀ s'' H'', R H'' s'' → N H'' → gs.Goes (model X.prog X.w) B.in1 (fun n s₀ r s₁ => r = .ok .next ∧ RPx X pins σ Dn n s₀ s₁) (YPx X pins σ a g YQ) n (.send .none) s''
def AliveX (X : Cx) (pins : List (Addr × Obj)) (σ : L2.St) (a : Addr) (g : Nat) (Dn : DNT) (YQ : YNT) (B : Around) (n : Nat) (N : Hp → Prop) (H : Hp) (s : Shared) : Prop :=
  ∃ R gs, RInv X pins σ a g R ∧ s.gens[g]? = some gs ∧ R H s ∧ N H ∧ GoesX X pins σ a g Dn YQ B n gs R N
section
variable {X : Cx} {pins : List (Addr × Obj)} {σ : L2.St} {a : Addr} {g n : Nat} {B : Around} {Dn : DNT} {YQ : YNT} {N : Hp → Prop} {H : Hp} {s : Shared}
theorem gx_next {Q : Option Value → Shared → Prop} {E : Value → Shared → Prop} (hB : B.handled = none) (hd : B.depth < recursionLimit) (A : AliveX X pins σ a g Dn YQ B n N H s)
    (hend : ∀ H' s', Inv X pins σ H' s' → Dn n H' → Q none s')
    (hitem : ∀ v y N' H' s' R, RInv X pins σ a g R → RelV y v → YQ (n - 1) N' y H' → R H' s' → (∀ H'' s'', N' H'' → R H'' s'' → s''.gens = s'.gens → ∃ n', n = n' + 1 ∧ AliveX X pins σ a g Dn YQ B n' N' H'' s'') → Q (some v) s') :
    wpAny (model X.prog X.w) B (pyNext (.ref a)) Q E s := by
  obtain ⟨R, gs, hR, hgs, hRs, hN, hgo⟩ := A
  have I := hR.inv _ _ hRs
  refine GenW.wpAny_gsz (n := s.gens.size) (Nat.le_refl _) ?_
  have hlt : g < s.gens.size := by
    rcases Nat.lt_or_ge g s.gens.size with h' | h'
    · exact h'
    · rw [Array.getElem?_eq_none h'] at hgs; cases hgs
  refine wpAny_pyNext_genexpQ (P := fun n s₀ s₁ => RPx X pins σ Dn n s₀ s₁) hB I.nolimit hd (hR.gen H s hRs) hgs (hgo _ H (hR.gens _ _ _ hRs (bare_set I.bare rfl)) hN) (fun v s₁ gs' hb hy hsz => ?_) (fun s₁ hp h' hk _ => ?_)
  · obtain ⟨R', y, H', N', hR', ry, hRs', hq, hkap⟩ := hy
    have I' := hR'.inv _ _ hRs'
    refine hitem v y N' H' _ R' hR' ry hq (hR'.gens _ _ _ hRs' (bare_set I'.bare hb)) fun H'' s'' hN' hRs'' hg' => ?_
    have hsz' : g < s₁.gens.size := by
      have : (s₁.setGen g gs').gens.size = s₁.gens.size := by simp [Shared.setGen]
      omega
    cases n with
    | zero => exact (hkap _ _ hRs'' hN').elim
    | succ n' =>
      refine ⟨n', rfl, R', gs', hR', ?_, hRs'', hN', fun s3 H3 h3 n3 => hkap s3 H3 h3 n3⟩
      rw [hg']
      simp [Shared.setGen, hsz']
  · obtain ⟨H', I', qd⟩ := hp
    refine hend H' _ ?_ qd
    exact (inv_gens I' (bare_set (gs := .finished) I'.bare rfl)).kept (t' := s₁.toks) (h' := h') hk
/-- collected at L: what a turn gives is put to the list -/
def yCol (L : Addr) : YNT := fun _ N y H => ∃ acc, H L = some (.lst acc) ∧ acc.length < sizeLine ∧ N (upd H L (.lst (acc ++ [y])))
theorem rinv_push {R : Hp → Shared → Prop} {L : Addr} {acc : List V} {y : V} {v : Value} (hR : RInv X pins σ a g R) (hRs : R H s) (hL : H L = some (.lst acc)) (hz : acc.length < sizeLine) (ry : RelV y v) :
    ∃ (its : List Value) (n : Nat), s.heap.get? L = some { cls := .type "list", data := .seq its.toArray n } ∧ its.length < sizeLine ∧ R (upd H L (.lst (acc ++ [y]))) { s with heap := s.heap.update L (Obj.mapSeq (·.push v)) } := by
  obtain ⟨z, its, n, r, hl, e⟩ := (hR.inv _ _ hRs).lstM hL
  have q := PySem.IsL.update e (·.push v)
  rw [show its.toArray.push v = (its ++ [v]).toArray by simp] at q
  refine ⟨its, n, e, by omega, hR.write _ _ L _ _ s.toks hRs (by rw [hL]; exact trivial) (fun b u hb hu => (Heap.get?_update_other s.heap _ (Ne.symm hb)).trans hu) ⟨_, Heap.get?_update_self _ e rfl⟩ ?_⟩
  exact ⟨by rw [List.length_append, List.length_singleton]; omega, its ++ [v], _, r.append (.cons ry .nil), q⟩
theorem extend_x {res : Value} {Rr : Result → Shared → Prop} {B3 : Around} {L : Addr} (hB : B3.handled = none) (hd : B3.depth < recursionLimit)
    (up : ∀ {α : Type} {t : Sem α} {Q : α → Shared → Prop} {E : Value → Shared → Prop} {s : Shared}, wpAny (model X.prog X.w) B3 t Q E s → wpAny (model X.prog X.w) B.in1 t Q E s)
    (fin : ∀ n H' s', Inv X pins σ H' s' → Dn n H' → Rr (.ok (.ret res)) s') :
    ∀ (n : Nat) (N : Hp → Prop) (H : Hp) (s : Shared), AliveX X pins σ a g Dn (yCol L) B3 n N H s → codeAny (model X.prog X.w) B (.builtin "list.extend.loop" ⟨[.ref L, .ref a, res], []⟩) Rr s := by
  intro n
  induction n with
  | zero =>
    intro N H s A
    refine codeAny_builtin PySem.F.entry_extend_loop ?_
    rw [Around.under_plainId PySem.F.plain_extend_loop _]
    show wpAny _ B.in1 (pyNext (.ref a) >>= _) _ _ s
    refine wpAny_bind (up (gx_next hB hd A (fun H' s' I' q => up (wpAny_pure (fin _ H' s' I' q))) fun v y N' H' s' R hR ry hq hRs hc => ?_))
    obtain ⟨acc, hL, hz, hn⟩ := hq
    obtain ⟨its, n, e, hl, hRs'⟩ := rinv_push hR hRs hL hz ry
    obtain ⟨n', e, _⟩ := hc _ _ hn hRs' rfl
    cases e
  | succ n ih =>
    intro N H s A
    refine codeAny_builtin PySem.F.entry_extend_loop ?_
    rw [Around.under_plainId PySem.F.plain_extend_loop _]
    show wpAny _ B.in1 (pyNext (.ref a) >>= _) _ _ s
    refine wpAny_bind (up (gx_next hB hd A (fun H' s' I' q => up (wpAny_pure (fin _ H' s' I' q))) fun v y N' H' s' R hR ry hq hRs hc => ?_))
    obtain ⟨acc, hL, hz, hn⟩ := hq
    obtain ⟨its, m, e, hl, hRs'⟩ := rinv_push hR hRs hL hz ry
    obtain ⟨n', e2, A'⟩ := hc _ _ hn hRs' rfl
    cases e2
    show wpAny _ B.in1 (updateSeq L (·.push v) >>= _) _ _ _
    refine wpAny_bind ?_
    refine wpAny_updateSeq e rfl (wpAny_pure ⟨plainId_quiet PySem.F.plain_extend_loop _, ih _ _ _ A'⟩) (by simp only [List.size_toArray]; omega) (by show (its.toArray.push v).size ≤ sizeLine + 1; rw [Array.size_push, List.size_toArray]; omega)
end
/-- a generator made, not begun; O: what the consumer lays ahead of its first turn -/
structure GMadeX (X : Cx) (pins : List (Addr × Obj)) (σ : L2.St) (I0 : Nat → Prop) (O : HO) (Dn : Addr → DNT) (YQ : Addr → YNT) (B : Around) (a : Addr) (s : Shared) : Prop where
  ex : ∃ (g : Nat) (H : Hp) (R : Hp → Shared → Prop) (gs : GenState), RInv X pins σ a g R ∧ s.gens[g]? = some gs ∧ R H s ∧ ∀ L, s.heap.objs.size ≤ L → ∃ n N, I0 n ∧ N (upd H L O) ∧ GoesX X pins σ a g (Dn L) (YQ L) B n gs R N
/-- the end of a collection: the list at L -/
def dCol (P : List V → Hp → Prop) (L : Addr) : DNT := fun _ H => ∃ acc, H L = some (.lst acc) ∧ P acc H
section
variable {X : Cx} {pins : List (Addr × Obj)} {σ : L2.St} {a : Addr} {B B3 : Around} {s : Shared} {P : List V → Hp → Prop}
theorem gen_type {g : Nat} (h : s.heap.IsGen a g) : s.TypeIs (.ref a) "generator" := h.typeIs
theorem collect_x {Q : List Value → Shared → Prop} {E : Value → Shared → Prop} (hB : B3.handled = none) (hd : B3.depth < recursionLimit)
    (up : ∀ {α : Type} {t : Sem α} {Q : α → Shared → Prop} {E : Value → Shared → Prop} {s : Shared}, wpAny (model X.prog X.w) B3 t Q E s → wpAny (model X.prog X.w) B.in1 t Q E s)
    {I0 : Nat → Prop} (M : GMadeX X pins σ I0 (.lst []) (dCol P) yCol B3 a s) (hQ : ∀ us acc H' s', Vals acc us → acc.length ≤ sizeLine → Inv X pins σ H' s' → P acc H' → Q us s') : wpAny (model X.prog X.w) B (collect (.ref a)) Q E s := by
  obtain ⟨g, H, R, gs, hR, hgs, hRs, hgo⟩ := M.ex
  obtain ⟨n, N, _, hN, goes⟩ := hgo s.heap.objs.size (Nat.le_refl _)
  have I := hR.inv _ _ hRs
  have hg := hR.gen _ _ hRs
  unfold collect
  refine wpAny_bind (wpAny_runValue (codeAny_builtin PySem.F.entry_proto_collect ?_))
  rw [Around.under_plainId PySem.F.plain_proto_collect _]
  show wpAny _ B.in1 (newList [] >>= fun l => again (.builtin "list.__iadd__" ⟨[l, .ref a], []⟩)) _ _ s
  refine wpAny_bind (wpAny_newObj_type ?_)
  refine wpAny_pure ⟨plainId_quiet PySem.F.plain_list_iadd _, codeAny_builtin PySem.F.entry_list_iadd ?_⟩
  rw [Around.under_plainId PySem.F.plain_list_iadd _]
  generalize hO : ({ cls := .type "list", data := .seq ([] : List Value).toArray } : Obj) = O
  have h0 : (s.heap.push O).get? s.heap.objs.size = some O := Heap.get?_push_size _ (by rw [← hO] <;> rfl)
  have R1 : R (upd H s.heap.objs.size (.lst [])) { s with heap := s.heap.push O } := hR.laid _ _ _ _ _ s.toks hRs (fun b u e => Heap.get?_push_of_some _ e) (Nat.le_refl _) ⟨Nat.zero_le _, [], 0, .nil, by rw [h0, ← hO] <;> rfl⟩
  have g1 := hR.gen _ _ R1
  have nI : s.heap.objs.size ≠ a := fun e => by
    obtain ⟨o, _, _, ho, _⟩ := id hg
    exact absurd (Heap.lt_size ho) (by rw [e]; exact Nat.lt_irrefl _)
  show wpAny _ B.in1 (Builtin.List.listExtendWith (.ref s.heap.objs.size) (.ref a) (.ref s.heap.objs.size)) _ _ _
  unfold Builtin.List.listExtendWith
  refine wpAny_bind (wpAny_typeOf (gen_type g1) ?_)
  have q1 : Builtin.List.listSameRef (.ref s.heap.objs.size) (.ref a) = false := by simp [Builtin.List.listSameRef, nI]
  have q2 : (Value.type "generator" == Value.type "list") = false := by decide
  have q3 : (Value.type "generator" == Value.type "tuple") = false := by decide
  simp only [q1, q2, q3, Bool.or_false, Bool.false_eq_true, if_false]
  refine wpAny_bind (wpAny_pyIter_gen g1 ?_)
  refine wpAny_bind (wpAny_holding ?_)
  unfold Builtin.List.listLengthHint
  refine wpAny_bind (wpAny_specialOf (gen_type g1) PySem.F.gen_no_len ?_)
  show wpAny _ B.in1 (specialOf (Value.ref a) (Str.ofString "__length_hint__") >>= _) _ _ _
  refine wpAny_bind (wpAny_specialOf (gen_type g1) PySem.F.gen_no_hint ?_)
  refine wpAny_pure ?_
  show wpAny _ B.in1 (rule "list.extend.makes-room" >>= fun _ => Builtin.List.listTouch (.ref s.heap.objs.size) >>= fun _ =>
    again (.builtin "list.extend.loop" ⟨[.ref s.heap.objs.size, .ref a, .ref s.heap.objs.size], []⟩)) _ _ _
  refine wpAny_bind (wpAny_rule ?_)
  refine wpAny_bind ?_
  show wpAny _ B.in1 (updateSeq s.heap.objs.size (·.push .none) >>= fun _ => updateSeq s.heap.objs.size (·.pop)) _ _ _
  subst hO
  refine wpAny_bind (wpAny_updateSeq h0 rfl ?_)
  have h1 := Heap.get?_update_self (Obj.mapSeq (·.push Value.none)) h0 rfl
  refine wpAny_updateSeq h1 rfl ?_
  have h2 := Heap.get?_update_self (Obj.mapSeq (·.pop)) h1 rfl
  have R2 : R (upd H s.heap.objs.size (.lst [])) { s with heap := ((s.heap.push { cls := .type "list", data := .seq ([] : List Value).toArray }).update s.heap.objs.size (Obj.mapSeq (·.push Value.none))).update s.heap.objs.size (Obj.mapSeq (·.pop)) } := by
    have w := hR.write _ _ s.heap.objs.size (.lst []) (((s.heap.push { cls := .type "list", data := .seq ([] : List Value).toArray }).update s.heap.objs.size (Obj.mapSeq (·.push Value.none))).update s.heap.objs.size (Obj.mapSeq (·.pop))) s.toks R1 (by rw [upd_same]; exact trivial)
      (fun b u hb e => (Heap.get?_update_other _ _ (Ne.symm hb)).trans ((Heap.get?_update_other _ _ (Ne.symm hb)).trans e)) ⟨_, h2⟩ ⟨Nat.zero_le _, [], _, .nil, by rw [h2] <;> rfl⟩
    have e : upd (upd H s.heap.objs.size (.lst [])) s.heap.objs.size (.lst []) = upd H s.heap.objs.size (.lst []) := by
      funext b
      by_cases hb : b = s.heap.objs.size
      · subst hb; rw [upd_same, upd_same]
      · rw [upd_ne hb]
    rw [e] at w
    exact w
  refine wpAny_pure ⟨plainId_quiet PySem.F.plain_extend_loop _, extend_x hB hd up (fun _ H' s' I' q => ?_) n N _ _ ⟨R, gs, hR, hgs, R2, hN, goes⟩⟩
  obtain ⟨acc, hL, pa⟩ := q
  obtain ⟨z, its, m, r, hl, e⟩ := I'.lstM hL
  show wpAny _ B (load s.heap.objs.size >>= _) _ _ s'
  refine wpAny_bind (wpAny_load e ?_)
  refine wpAny_pure (hQ _ acc H' s' ?_ z I' pa)
  simpa using r
end
end Sh
set_option Elab.async false
set_option linter.all false
set_option maxRecDepth 100000
set_option maxHeartbeats 2000000
namespace Sh
open PySem PySem.Spec PyProof.Rows L2
abbrev in4 (A : Around) : Around := A.in1.in1.in1.in1
theorem rinv_igx {G X : Cx} {pins : List (Addr × Obj)} {σ σg : L2.St} {a : Addr} {g : Nat} {fp : List Addr} {tn : Nat → Heap → Prop} (hgen : ∀ H s, Inv G [] σg H s → s.heap.IsGen a g) (hback : ∀ H s, Inv G [] σg H s → Inv X pins σ H s)
    (keep : ∀ i h h', tn i h → (∀ b ∈ fp, ∀ o, h.get? b = some o → h'.get? b = some o) → tn i h') (lt : ∀ i h, tn i h → ∀ b ∈ fp, b < h.objs.size) (i : Nat) (hP : G.prog = X.prog := by rfl) (hw : G.w = X.w := by rfl) : RInv X pins σ a g (IGx G σg fp tn i) where
  gen := fun H s h => hgen H s h.1
  inv := fun H s h => hback H s h.1
  gens := fun H s g' h hb => h.gens hb
  kept := fun H s h' t h k => ⟨h.1.kept k, keep _ _ _ h.2.1 fun b hb o e => k b o e, h.2.2⟩
  laid := fun H s L o h' t h k hL new => ⟨h.1.laid k hL (by rw [hP, hw]; exact new), keep _ _ _ h.2.1 fun b hb o e => k b o e, fun b hb => by
    rw [upd_ne (Nat.ne_of_lt (Nat.lt_of_lt_of_le (lt _ _ h.2.1 b hb) hL))]
    exact h.2.2 b hb⟩
  write := fun H s L o h' t h mu k he new => by
    have ne : ∀ b ∈ fp, b ≠ L := fun b hb z => by rw [← z, h.2.2 b hb] at mu; exact mu
    exact ⟨h.1.write mu (.inl rfl) k he (by rw [hP, hw]; exact new), keep _ _ _ h.2.1 fun b hb o e => k b o (ne b hb) e, fun b hb => by rw [upd_ne (ne b hb)]; exact h.2.2 b hb⟩
/-- what a turn is to do, r turns' gifts being to come -/
def GTurnN (J : It) (g : TG) (tt : TT) (te : TE) (σg : L2.St) (vs : List Nat) (Dn : DNT) (YQ : YNT) (W : Nat → Nat → Nat → Hp → Prop) : Prop := ∀ i m r H, W i m r H → (J.stop i H ∧ Dn r H) ∨ (J.go i H ∧ ∃ N : Nat → Hp → Prop, (∀ r' H', N r' H' → ∃ m', m' < m ∧ W (i + 1) m' r' H') ∧
  ∀ x H', J.yld i H x H' → g x σg H' fun σ2 H2 => wipe σ2 vs = σg ∧ tt σ2 H2 fun b H3 => if b = true then te σ2 H3 fun y H4 => ∃ r', r = r' + 1 ∧ YQ r' (N r') y H4 else N r H3)
section
variable {G X : Cx} {pins : List (Addr × Obj)} {σ σg : L2.St} {a : Addr} {gi : Nat} {vs : List Nat} {fp : List Addr} {tn : Nat → Heap → Prop} {B : Around} {elt tg iter : Expr} {ifs : List Expr} {scope : Scope} {pos : Pos} {it : Addr} {J : It} {g : TG} {tt : TT} {te : TE} {Dn : DNT} {YQ : YNT} {W : Nat → Nat → Nat → Hp → Prop}
theorem g_loopX (hR : ∀ i, RInv X pins σ a gi (IGx G σg fp tn i)) (hback : ∀ H s, Inv G [] σg H s → Inv X pins σ H s) (hA : G.A = B.deeper G.env) (hc : G.calm = true) (hxe : G.xe = fun _ _ => False) (hex : G.ex = fp) (hpn : ∀ p ∈ G.pn, p.1 ∉ fp) (hco : G.env.scope.isCoroutine = false) (T : Turn G.prog G.w G.K tg J fp it tn) (hg : PG G tg g) (ht : PTs G ifs tt) (he : PE G elt te)
    (turn : GTurnN J g tt te σg vs Dn YQ W) (hσ : ∀ σ2 : L2.St, wipe σ2 vs = σg → σg.length = σ2.length ∧ ∀ (j : Nat) v, σg[j]? = some (some v) → σ2[j]? = some (some v)) :
    ∀ (m n i : Nat) (s₀ s : Shared) (H : Hp), W i m n H → IGx G σg fp tn i H s →
      Seg (model G.prog G.w) B (fun n s₀ r s₁ => r = .ok .next ∧ RPx X pins σ Dn n s₀ s₁) (YPx X pins σ a gi YQ) n s₀ (.compLoop (.GeneratorExp elt [⟨tg, iter, ifs, 0⟩] scope pos) 0 (.ref it) .none G.env)
        ((model G.prog G.w).den (.compLoop (.GeneratorExp elt [⟨tg, iter, ifs, 0⟩] scope pos) 0 (.ref it) .none G.env)) [] s := by
  have hov : B.over (.compLoop (.GeneratorExp elt [⟨tg, iter, ifs, 0⟩] scope pos) 0 (.ref it) .none G.env) [] = G.A := by rw [hA]; exact over_gen _ _ (.inl rfl)
  intro m
  induction m using Nat.strongRecOn with
  | ind m ih =>
    intro n i s₀ s H hw hI
    obtain ⟨I, st, fr⟩ := hI
    show Seg _ B _ _ _ s₀ _ ((compTurn (.GeneratorExp elt [⟨tg, iter, ifs, 0⟩] scope pos) 0 (.ref it) .none G.env).onRaise (leaving G.env)) [] s
    rw [compTurn_gen, Sem.onRaise_eq_wrap]
    refine seg_bind_wrap (wpAny_standAt ?_)
    rcases turn i m n H hw with ⟨stop, qd⟩ | ⟨go, N, hN, step⟩
    · have td := T.done G rfl rfl rfl hc i [] s σg H (fun _ _ => False) I (igx_stat (i := i) hex hpn I fr) st stop
      refine seg_bind_wrap ?_
      rw [hov]
      refine thnF td fun r s1 ⟨hr, I1⟩ => ?_
      subst hr
      exact seg_end (.ok .next) ⟨rfl, H, hback H s1 I1, qd⟩
    · have ti := T.item G rfl rfl rfl hc i [] s σg H (fun _ _ => False) I (igx_stat (i := i) hex hpn I fr) st go
      refine seg_bind_wrap ?_
      rw [hov]
      refine thnF ti fun r s1 ⟨u, hr, h1⟩ => ?_
      subst hr
      refine seg_bind_wrap ?_
      rw [hov]
      refine thnF h1 fun _ s2 ⟨x, H2, I2, r2, y2, st2, fr2⟩ => ?_
      have I2' := I2.pinned (igx_stat (i := i) hex hpn I2 fr2) (T.obj _ _ st2)
      have back : ∀ {σ8 : L2.St} {s' : Shared} {H' : Hp}, wipe σ8 vs = σg → Inv G ([] ++ pinsAt fp s2.heap) σ8 H' s' → IGx G σg fp tn (i + 1) H' s' := fun {σ8 s' H'} hw8 I' => by
        have pin' : ∀ b ∈ fp, ∀ o, s2.heap.get? b = some o → s'.heap.get? b = some o ∧ H' b = none := fun b hb o e =>
          let z := I'.pin (b, o) (List.mem_append_right _ (List.mem_append_right _ (mem_pinsAt hb e)))
          ⟨z.1, z.2.1⟩
        obtain ⟨w1, w2⟩ := hσ σ8 hw8
        refine ⟨(I'.unpinned (pins := [])).weak w1 w2, T.keep _ _ _ st2 fun b hb o e => (pin' b hb o e).1, fun b hb => ?_⟩
        obtain ⟨o, e, _⟩ := T.obj _ _ st2 b hb
        exact (pin' b hb o e).2
      refine seg_bind_wrap ?_
      rw [hov]
      have ag := hg.run _ s2 σg H2 x u _ I2' r2 (step x H2 y2)
      rw [hxe] at ag
      refine thnF ag fun _ s3 ⟨σ3, H3, I3, hw3, q3⟩ => ?_
      refine seg_bind_wrap ?_
      rw [hov]
      have at_ := ht.run _ s3 σ3 H3 _ I3 q3
      rw [hxe] at at_
      refine thnF at_ fun b s4 ⟨H4, I4, q4⟩ => ?_
      cases b with
      | false =>
        simp only [Bool.false_eq_true, if_false] at q4 ⊢
        obtain ⟨m', hm', w'⟩ := hN n H4 q4
        exact seg_again rfl (ih m' hm' n (i + 1) s₀ s4 H4 w' (back hw3 I4))
      | true =>
        simp only [if_true] at q4 ⊢
        have hy : ∀ v, yieldOut G.env v = yieldValue v := fun v => by simp only [yieldOut, hco, Bool.false_eq_true, if_false]
        simp only [hy]
        rw [Sem.bind_eq_wrap', Sem.bind_eq_wrap', Sem.wrap_wrap, Sem.wrap_wrap]
        refine seg_wrap ?_
        rw [hov]
        have ae := he.run _ s4 σ3 H4 _ I4 q4
        rw [hxe] at ae
        refine thnF ae fun v s5 ⟨y, H5, I5, r5, n', en, q5⟩ => ?_
        subst en
        refine seg_at (seg_yield rfl rfl rfl ⟨IGx G σg fp tn (i + 1), y, H5, N n', hR (i + 1), r5, back hw3 I5, q5, fun s'' H'' hI'' nx => ?_⟩)
        obtain ⟨m', hm', w'⟩ := hN n' H'' nx
        exact seg_again rfl (ih m' hm' n' (i + 1) s'' s'' H'' w' hI'')
theorem g_beginX (hR : ∀ i, RInv X pins σ a gi (IGx G σg fp tn i)) (hback : ∀ H s, Inv G [] σg H s → Inv X pins σ H s) (hA : G.A = B.deeper G.env) (hc : G.calm = true) (hxe : G.xe = fun _ _ => False) (hex : G.ex = fp) (hpn : ∀ p ∈ G.pn, p.1 ∉ fp) (hco : G.env.scope.isCoroutine = false) (T : Turn G.prog G.w G.K tg J fp it tn) (hg : PG G tg g) (ht : PTs G ifs tt) (he : PE G elt te)
    (turn : GTurnN J g tt te σg vs Dn YQ W) (hσ : ∀ σ2 : L2.St, wipe σ2 vs = σg → σg.length = σ2.length ∧ ∀ (j : Nat) v, σg[j]? = some (some v) → σ2[j]? = some (some v))
    {m n : Nat} {s₀ s : Shared} {H : Hp} (hw : W 0 m n H) (hI : IGx G σg fp tn 0 H s) :
      Seg (model G.prog G.w) B (fun n s₀ r s₁ => r = .ok .next ∧ RPx X pins σ Dn n s₀ s₁) (YPx X pins σ a gi YQ) n s₀ (.compStart (.GeneratorExp elt [⟨tg, iter, ifs, 0⟩] scope pos) 0 (.ref it) .none G.env)
        ((model G.prog G.w).den (.compStart (.GeneratorExp elt [⟨tg, iter, ifs, 0⟩] scope pos) 0 (.ref it) .none G.env)) [] s := by
  have loop := g_loopX (iter := iter) (scope := scope) (pos := pos) hR hback hA hc hxe hex hpn hco T hg ht he turn hσ m n 0 s₀ s H hw hI
  show Seg _ B _ _ _ s₀ _ ((compStart (.GeneratorExp elt [⟨tg, iter, ifs, 0⟩] scope pos) 0 (.ref it) .none G.env).onRaise (leaving G.env)) [] s
  unfold compStart
  rw [Sem.onRaise_eq_wrap]
  show Seg _ B _ _ _ s₀ _ ((ask >>= _).wrap _ _ _ _) [] s
  refine seg_bind_wrap (wpAny_askSetting ?_)
  split
  · exact seg_again rfl loop
  · first
      | exact seg_bind_wrap (wpAny_rule (seg_bind_wrap (wpAny_standAt (seg_bind_wrap (T.self _ 0 s _ _ hI.2.1 (seg_again rfl loop))))))
      | (refine seg_bind_wrap (wpAny_rule ?_); show Seg _ B _ _ _ s₀ _ ((standAt iter.pos >>= _).wrap _ _ _ _) [] s; exact seg_bind_wrap (wpAny_standAt (seg_bind_wrap (T.self _ 0 s _ _ hI.2.1 (seg_again rfl loop)))))
end
def GFam4 (X : Cx) (scope : Scope) (p : Cx → Prop) : Prop := ∀ (s : Shared) (H : Hp) (C : Addr) (cl : List (Str × Addr)) (code : Value) (fp : List Addr) (pn : List (Addr × Obj)), p (gCx X (in4 X.A) s H (genEnv scope cl C code builtinsNs X.env) fp pn)
abbrev B3 (A : Around) : Around := A.in1.in1.in1
/-- what is asked of a generator's walk, a list kept meanwhile -/
def tGx (T : List (Addr × Str)) (wi : TI) (g : TG) (tt : TT) (te : TE) (vs : List Nat) (I0 : Nat → Prop) (O : HO) (Dn : Addr → DNT) (YQ : Addr → YNT) : L2.St → Hp → Prop := fun σ H => wi σ H fun J H1 => LamX.Tabs T H1 ∧ ∀ H2, LamX.ExtN H1 H2 → LamX.Tabs T H2 → (∀ b ps, H1 b = some (.tbl ps) → ∃ qs, H2 b = some (.tbl qs)) →
  ∀ L, H2 L = none → ∃ W : Nat → Nat → Nat → Hp → Prop, (∃ m r, I0 r ∧ W 0 m r (upd H2 L O)) ∧ GTurnN J g tt te (wipe σ vs) vs (Dn L) (YQ L) W
section
variable {X : Cx} {pins : List (Addr × Obj)} {σ : L2.St} {H : Hp} {s : Shared}
theorem gen_makeX {k : Nat} {T : List (Addr × Str)} {c P : Addr} {elt tg iter : Expr} {ifs : List Expr} {scope : Scope} {own : List (Str × Nat)} {gpos : Pos} {wi : TI} {g : TG} {tt : TT} {te : TE} {I0 : Nat → Prop} {O : HO} {Dn : Addr → DNT} {YQ : Addr → YNT} {Q' : Value → Shared → Prop}
    (hr : Room k X.A) (hc : X.calm = true) (hN : X.N.Nodup) (S : GSc X.N X.env.scope scope own) (gt : GTab X T c P) (hi : PI X tg iter wi) (hg : GFam4 X scope fun G => PG G tg g) (ht : GFam4 X scope fun G => PTs G ifs tt) (he : GFam4 X scope fun G => PE G elt te)
    (hs : ∀ v, genFold iter X.env v = pure v) (I : Inv X pins σ H s) (h : tGx T wi g tt te (own.map (·.2)) I0 O Dn YQ σ H)
    (hQ : ∀ a s', GMadeX X pins σ I0 O Dn YQ (B3 X.A) a s' → Q' (.ref a) s') :
    wpAny (model X.prog X.w) X.A (eval (.GeneratorExp elt [⟨tg, iter, ifs, 0⟩] scope gpos) X.env) Q' X.xe s := by
  have hfree : ∀ y ∈ scope.names, y.2 = .free → ∃ c, X.env.cells.lookup y.1 = some c := fun y hy e => by
    rcases S.blk.free y hy e with k | k
    · exact I.ok.has _ (.inl k)
    · exact I.ok.has _ (.inr k)
  refine wpAny_GeneratorExp_make S.co (closure_ok hfree) S.cell S.dot S.blk.kind hr.depth (thn (hi.run pins s σ H _ I h) fun xv s1 h1 => thn h1 fun itv s2 h2 => ?_) hs
  obtain ⟨it, fp, tn, J, H2, e, I2, T2, st2, f2, hT, q⟩ := h2
  subst e
  refine ⟨I2.nolimit, ?_⟩
  refine g_code I2 gt hT fun code H3 s3 st hP => ?_
  obtain ⟨I3, hE, hT3, hk, hnn, htk, hsz⟩ := st
  obtain ⟨bm, ob, e1, e2, e3, e4, e5, e6, e7, e8⟩ := gt.tb.bm
  refine wpAny_builtinsFor (m := X.mg) (by rw [I3.ok.glob]; exact I3.mod.glob.keeps I3.bk) e1 e2 (I3.bk _ _ e5) e6 e7 e8 ?_
  intro h' hn' hs'
  have ltf : ∀ i h, tn i h → ∀ b ∈ fp, b < h.objs.size := fun i h st b hb => by
    obtain ⟨o, e, _⟩ := T2.obj _ _ st b hb
    exact Heap.lt_size e
  have neP : ∀ b ∈ fp, b ≠ P := fun b hb z => hP (by rw [← z]; exact (f2 b hb).1)
  have f3 : ∀ b ∈ fp, FpOk X pins H3 b ∧ b < s3.heap.objs.size := fun b hb => ⟨⟨hnn b (ltf _ _ st2 b hb) (f2 b hb).1, (f2 b hb).2⟩, Nat.lt_of_lt_of_le (ltf _ _ st2 b hb) hsz⟩
  have kp : ∀ b o, s3.heap.get? b = some o → ∀ go : Obj, (h'.push go).get? b = some o := fun b o e go => Heap.get?_push_of_some _ (hs'.extBut b o (Nat.ne_of_lt (Heap.lt_size e)) (Heap.get?_push_of_some _ e))
  have IG := g_start (gs := .fresh (.compStart (.GeneratorExp elt [⟨tg, iter, ifs, 0⟩] scope gpos) 0 (.ref it) .none (genEnv scope (cloFrom X.env.cells scope.names []) s3.heap.objs.size code builtinsNs X.env))) (tk := s3.toks + 1 + 1 + 1) (B := in4 X.A)
    (go := { cls := .type "generator", data := .fields #[.int s3.gens.size 0, .str "<genexpr>" (s3.toks + 1), .str (X.env.qual ++ "<genexpr>") (s3.toks + 1 + 1)] }) (code := code) I3 S hN hr.hd I3.ok.frames f3 hn' hs' rfl (fun v z => by cases z) (by intro z; cases z)
  have hpn : ∀ p ∈ [(h'.objs.size, ({ cls := .type "generator", data := .fields #[.int s3.gens.size 0, .str "<genexpr>" (s3.toks + 1), .str (X.env.qual ++ "<genexpr>") (s3.toks + 1 + 1)] } : Obj))], p.1 ∉ fp := fun p hp hb => by
    rw [List.mem_singleton.mp hp] at hb
    have h1 := (f3 _ hb).2
    rw [show h'.objs.size = s3.heap.objs.size + 1 by rw [hs'.1, Heap.size_push]] at h1
    exact absurd h1 (Nat.not_lt.mpr (Nat.le_succ _))
  have hgen : ∀ H s, Inv (gCx X (in4 X.A) s3 H3 (genEnv scope (cloFrom X.env.cells scope.names []) s3.heap.objs.size code builtinsNs X.env) fp [(h'.objs.size, { cls := .type "generator", data := .fields #[.int s3.gens.size 0, .str "<genexpr>" (s3.toks + 1), .str (X.env.qual ++ "<genexpr>") (s3.toks + 1 + 1)] })]) [] (wipe σ (own.map (·.2))) H s → s.heap.IsGen h'.objs.size s3.gens.size := fun H s I =>
    ⟨_, _, _, (I.pin _ (List.mem_append_left _ (List.mem_singleton.mpr rfl))).1, rfl, rfl, rfl⟩
  have hback : ∀ H s, Inv (gCx X (in4 X.A) s3 H3 (genEnv scope (cloFrom X.env.cells scope.names []) s3.heap.objs.size code builtinsNs X.env) fp [(h'.objs.size, { cls := .type "generator", data := .fields #[.int s3.gens.size 0, .str "<genexpr>" (s3.toks + 1), .str (X.env.qual ++ "<genexpr>") (s3.toks + 1 + 1)] })]) [] (wipe σ (own.map (·.2))) H s → Inv X pins σ H s := fun H s I =>
    I3.call' (ch := fp) I.os I.base I.hok I.bare fun b hb => ⟨(f3 b hb).1.2.2.2.1, (f3 b hb).1.2.1, (f3 b hb).1.2.2.2.2.1, (f3 b hb).1.2.2.2.2.2⟩
  have hR := fun i => rinv_igx (X := X) (pins := pins) (σ := σ) (a := h'.objs.size) (g := s3.gens.size) (fp := fp) (tn := tn) hgen hback T2.keep ltf i
  refine hQ _ _ ⟨⟨s3.gens.size, H3, IGx _ (wipe σ (own.map (·.2))) fp tn 0, _, hR 0, Array.getElem?_push_size .., ⟨IG, ?_, fun b hb => (f3 b hb).1.1⟩, fun L hL => ?_⟩⟩
  · exact T2.keep _ _ _ st2 fun b hb o e => kp b o (hk b o (neP b hb) e) _
  · have hL3 : H3 L = none := I3.hok.fresh (by
      refine Nat.le_trans ?_ hL
      have : h'.objs.size = s3.heap.objs.size + 1 := by rw [hs'.1, Heap.size_push]
      show s3.heap.objs.size ≤ (h'.push _).objs.size
      rw [Heap.size_push, this]
      omega)
    obtain ⟨W, ⟨m, r, hr0, hw⟩, turn⟩ := q H3 hE hT3 htk L hL3
    refine ⟨r, fun H => W 0 m r H, hr0, hw, fun s'' H'' hI hw' => ?_⟩
    refine ⟨rfl, ?_⟩
    exact g_beginX (X := X) (pins := pins) (σ := σ) (B := in4 X.A) (g := g) (tt := tt) (te := te) hR hback rfl rfl rfl rfl hpn S.co T2 (hg _ _ _ _ _ _ _) (ht _ _ _ _ _ _ _) (he _ _ _ _ _ _ _) turn
      (fun σ2 h2 => by
        refine ⟨by rw [← h2, wipe_length], fun j v e => ?_⟩
        rw [← h2] at e
        exact (wipe_some e).1) hw' hI
end
end Sh
set_option Elab.async false
set_option linter.all false
set_option maxRecDepth 100000
set_option maxHeartbeats 2000000
namespace Sh
open PySem PySem.Spec PyProof.Rows L2
/-- what a generator gives in turn -/
def gnL (g : TGx) (t : TX) (f : EX) (Sw : Env') : List D → Hs → Option (List D × Hs)
  | [], h => some ([], h)
  | d :: ds, h => match g d Sw with
    | none => none
    | some S1 => match t S1 h with
      | some (.ok false h1) => gnL g t f Sw ds h1
      | some (.ok true h1) => match f S1 h1 with
        | some (.ok (.d v) h2) => (match gnL g t f Sw ds h2 with
            | some (vs, h3) => some (v :: vs, h3)
            | none => none)
        | _ => none
      | _ => none
/-- the generator's items, then what is made of them -/
def gnK (i : IX) (vs : List Nat) (g : TGx) (t : TX) (f : EX) (kk : List D → Hs → Option (Rs R)) : EX := fun S h => andThen (i S h) fun ds h1 => match gnL g t f (wipeS S vs) ds h1 with
  | some (xs, h2) => if xs.length ≤ sizeLine then kk xs h2 else none
  | none => none
section
variable {X : Cx} {c : Cc} {e elt tg iter : Expr} {pos gpos p : Pos} {ifs : List Expr}
theorem tGx_col {vs ts : List Nat} {i : IX} {g : TGx} {t : TX} {f : EX} {σ : L2.St} {H0 H : Hp} {Q : VK} {fz : FZ} {G : List (Addr × HO)} {ρ0 ρ : List Addr} {S : Env'} {h0 h : Hs} {kk : List D → Hs → Option (Rs R)} {Wx : XK} (hts : ∀ k, k ∈ ts → k ∈ vs)
    (s : Stt (c.p X.K) c.ρ0 c.H0 G ρ S h σ H) (hr0 : HR (c.p X.K) ρ0 h0 H0) (n0 : Nx (c.p X.K) ρ0 H0 ρ h H) (hW : ∀ cls d H', Wx cls d H' → c.W cls d σ H') (e : Ed (c.p X.K) Wx ρ0 H0 (gnK i vs g t f kk S h) (RV (c.p X.K)) Q) :
    tGx c.T (tI X.K c fz i) (tG X.K c.calm ts g) (tT X.K c.calm t) (tE X.K c.calm f) vs (fun _ => True) (.lst []) (dCol fun acc H' => acc.length ≤ sizeLine ∧ ∃ ρ' h' xs, Nx (c.p X.K) ρ0 H0 ρ' h' H' ∧ DVs X.K ρ' H' acc xs ∧ Ed (c.p X.K) Wx ρ0 H0 (kk xs h') (RV (c.p X.K)) Q) yCol σ H := by
  refine ⟨G, ρ, S, h, s, ?_⟩
  have e2 : Ed (c.p X.K) Wx ρ H (i S h) (fun ρ' Hb H' J ds => ItR (c.p X.K) (fz G Hb) ρ' H' J ds) fun J H1 => LamX.Tabs c.T H1 ∧ ∀ H2, LamX.ExtN H1 H2 → LamX.Tabs c.T H2 → (∀ b ps, H1 b = some (.tbl ps) → ∃ qs, H2 b = some (.tbl qs)) → ∀ L, H2 L = none → ∃ W : Nat → Nat → Nat → Hp → Prop, (∃ m r, (fun _ => True) r ∧ W 0 m r (upd H2 L (.lst []))) ∧ GTurnN J (tG X.K c.calm ts g) (tT X.K c.calm t) (tE X.K c.calm f) (wipe σ vs) vs ((dCol fun acc H' => acc.length ≤ sizeLine ∧ ∃ ρ' h' xs, Nx (c.p X.K) ρ0 H0 ρ' h' H' ∧ DVs X.K ρ' H' acc xs ∧ Ed (c.p X.K) Wx ρ0 H0 (kk xs h') (RV (c.p X.K)) Q) L) (yCol L) W := by
    refine e.bindAt n0 (rel := fun ρ' Hb H' J ds => ItR (c.p X.K) (fz G Hb) ρ' H' J ds) fun ds h1 ρ1 H1 J n1 it e1 => ⟨n1.tb, fun H2 hE hT2 htk A hA => ?_⟩
    have n2 : Nx (c.p X.K) ρ1 H1 ρ1 h1 H2 := .extN n1.hr hE hT2 htk
    have n02 := (n0.trans n1).trans n2
    have zA : H0 A = none := n02.old hA hr0
    have zA1 : H A = none := (n1.trans n2).old hA s.hr
    have nA1 : A ∉ ρ1 := n2.hr.free hA
    have n3 : Nx (c.p X.K) ρ1 H2 ρ1 h1 (upd H2 A (.lst [])) := .alloc n2.hr n2.tb hA
    obtain ⟨Gd, Y, supp, w, hsup, hgd, hy⟩ := it
    cases hL : gnL g t f (wipeS S vs) ds h1 with
    | none => simp only [hL] at e1; exact e1.elim
    | some bh =>
      obtain ⟨XS, hF⟩ := bh
      simp only [hL] at e1
      split at e1
      · rename_i hsz
        skip
        let Fin : Nat → Nat → Nat → Hp → Prop := fun i m r H' => m = ds.length - i ∧ i ≤ ds.length ∧ ∃ ρ' h' av pre xs, Nx (c.p X.K) ρ0 H0 ρ' h' H' ∧ Nx (c.p X.K) ρ H ρ' h' H' ∧ Lt X.K ρ1 H1 ρ' H' ∧ (∀ q ∈ supp, H' q.1 = some q.2 ∧ NoTbl q.2 ∧ q.1 ∉ ρ' ∧ q.1 ≠ A) ∧ A ∉ ρ' ∧ H' A = some (.lst av) ∧ DVs X.K ρ' H' av pre ∧
          gnL g t f (wipeS S vs) (ds.drop i) h' = some (xs, hF) ∧ XS = pre ++ xs ∧ r = xs.length
        refine ⟨Fin, ⟨ds.length, XS.length, trivial, by simp, Nat.zero_le _, ρ1, h1, [], [], XS, n02.trans n3, (n1.trans n2).trans n3, (n2.trans n3).lt n1.hr, fun q m => ?_, nA1, upd_same, .nil, by rw [List.drop_zero]; exact hL, rfl, rfl⟩, ?_⟩
        · obtain ⟨a1, a2, a3, _⟩ := hsup q m
          have a4 := n2.fr _ _ a1 a2 a3
          have ne := ne_of_none a4 hA
          exact ⟨by rw [upd_ne ne]; exact a4, a2, a3, ne⟩
        rintro i m r H' ⟨rfl, hi, ρ', h', av, pre, xs, n, nS, l, hs, na, ha, racc, fin, eX, rfl⟩
        have gd := hgd H' fun q m => (hs q m).1
        by_cases hlt : i < ds.length
        · refine .inr ⟨w.goes i H' hlt gd, fun r' H'' => Fin (i + 1) (ds.length - (i + 1)) r' H'', fun r' H'' z => ⟨_, by omega, z⟩, fun x H'' y => ?_⟩
          obtain ⟨n3, d, hd, dv⟩ := hy i ρ' h' H' x H'' l (fun q m => (hs q m).1) n.hr n.tb hlt (w.yields i H' x H'' hlt gd y)
          have ed : ds.drop i = d :: ds.drop (i + 1) := by
            obtain ⟨hlt, hv⟩ := List.getElem?_eq_some_iff.mp hd
            rw [List.drop_eq_getElem_cons hlt, hv]
          rw [ed] at fin
          simp only [gnL] at fin
          have s4 := s.nx (nS.trans n3)
          have sup : ∀ {ρa h_a Ha}, Nx (c.p X.K) ρ' H' ρa h_a Ha → (∀ q ∈ supp, Ha q.1 = some q.2 ∧ NoTbl q.2 ∧ q.1 ∉ ρa ∧ q.1 ≠ A) ∧ A ∉ ρa ∧ Ha A = some (.lst av) ∧ DVs X.K ρa Ha av pre := fun {ρa h_a Ha} nn => by
            refine ⟨fun q m => ?_, nn.fresh ha na, nn.fr _ _ ha (by intro ps z; cases z) na, nn.dvs n.hr racc⟩
            obtain ⟨a1, a2, a3, a4⟩ := hs q m
            exact ⟨nn.fr _ _ a1 a2 a3, a2, nn.fresh a1 a3, a4⟩
          refine ⟨G, ρ', wipeS S vs, h', d, s4.wipe vs, dv, ?_⟩
          cases hg : g d (wipeS S vs) with
          | none => rw [hg] at fin; cases fin
          | some S1 =>
            rw [hg] at fin
            simp only at fin
            intro σ2 hl ho s5
            refine ⟨wipe_same hl fun k hk => ho k fun z => hk (hts k z), G, ρ', S1, h', s5, ?_⟩
            cases ht : t S1 h' with
            | none => rw [ht] at fin; cases fin
            | some r =>
              rw [ht] at fin
              cases r with
              | exc cc h3 => cases fin
              | ok b h3 =>
                intro ρ3 H3 b' n5 eb
                cases eb
                have n35 := n3.trans n5
                cases b with
                | false =>
                  obtain ⟨q1, q2, q3, q4⟩ := sup n35
                  exact iteF ⟨rfl, hlt, ρ3, h3, av, pre, xs, n.trans n35, nS.trans n35, l.trans (n35.lt n.hr), q1, q2, q3, q4, fin, eX, rfl⟩
                | true =>
                  refine iteT ⟨G, ρ3, S1, h3, s5.nx n5, ?_⟩
                  simp only at fin
                  cases hf : f S1 h3 with
                  | none => rw [hf] at fin; cases fin
                  | some r =>
                    rw [hf] at fin
                    cases r with
                    | exc cc h4 => cases fin
                    | ok r h4 =>
                      intro ρ4 H4 v n6 rv
                      have n36 := n35.trans n6
                      obtain ⟨q1, q2, q3, q4⟩ := sup n36
                      cases r with
                      | d vd =>
                        simp only at fin
                        cases hM : gnL g t f (wipeS S vs) (ds.drop (i + 1)) h4 with
                        | none => rw [hM] at fin; cases fin
                        | some z =>
                          obtain ⟨ys, h5⟩ := z
                          rw [hM] at fin
                          simp only [Option.some.injEq, Prod.mk.injEq] at fin
                          obtain ⟨rfl, rfl⟩ := fin
                          refine ⟨ys.length, rfl, ?_⟩
                          have eX2 : XS = (pre ++ [vd]) ++ ys := by rw [eX, List.append_assoc] <;> rfl
                          have hz : av.length < sizeLine := by
                            have h1 := congrArg List.length eX2
                            rw [List.length_append, List.length_append, List.length_singleton] at h1
                            rw [q4.length]
                            omega
                          refine ⟨av, q3, hz, rfl, hlt, ρ4, h4, av ++ [v], pre ++ [vd], ys, (n.trans n36).wr zA q3 trivial q2, (nS.trans n36).wr zA1 q3 trivial q2, (l.trans (n36.lt n.hr)).trans (upd_lt q3 trivial), fun q m => ?_, q2, upd_same, ?_, hM, eX2, rfl⟩
                          · obtain ⟨a1, a2, a3, a4⟩ := q1 q m
                            exact ⟨by rw [upd_ne a4]; exact a1, a2, a3, a4⟩
                          · exact (upd_dvs q3 trivial q4).append (.cons (upd_dv q3 trivial rv) .nil)
                      | _ => cases fin
        · have e : i = ds.length := by omega
          subst e
          rw [List.drop_length] at fin
          simp only [gnL, Option.some.injEq, Prod.mk.injEq] at fin
          obtain ⟨rfl, rfl⟩ := fin
          rw [List.append_nil] at eX
          subst eX
          exact .inl ⟨w.stops H' gd, av, ha, by rw [racc.length]; exact hsz, ρ', _, _, n, racc, e1⟩
      · exact e1.elim
  cases hi : i S h with
  | none => rw [hi] at e2; exact e2
  | some r =>
    rw [hi] at e2
    cases r with
    | ok ds h1 => exact e2
    | exc cc h1 => exact fun ρ' H' nn => hW _ _ _ (e2 ρ' H' nn)
/-- summed: what a turn gives, by how many are to come -/
def ySum (bs : List Int) (L : Addr) : YNT := fun r N y H => ∃ b w, y = V.int b ∧ bs.reverse[r]? = some b ∧ H L = some (.lst w) ∧ ∀ t, N (upd H L (.lst [V.int t]))
def dSum (P : Hp → Prop) (L : Addr) : DNT := fun r H => r = 0 ∧ P H
theorem tGx_sum {vs ts : List Nat} {i : IX} {g : TGx} {t : TX} {f : EX} {σ : L2.St} {H0 H : Hp} {Q : VK} {fz : FZ} {G : List (Addr × HO)} {ρ0 ρ : List Addr} {S : Env'} {h0 h : Hs} {kk : List D → Hs → Option (Rs R)} {Wx : XK} {bs : List Int} (hts : ∀ k, k ∈ ts → k ∈ vs)
    (s : Stt (c.p X.K) c.ρ0 c.H0 G ρ S h σ H) (hr0 : HR (c.p X.K) ρ0 h0 H0) (n0 : Nx (c.p X.K) ρ0 H0 ρ h H) (hW : ∀ cls d H', Wx cls d H' → c.W cls d σ H') (e : Ed (c.p X.K) Wx ρ0 H0 (gnK i vs g t f kk S h) (RV (c.p X.K)) Q) (hbs : ∀ xs h1 x, kk xs h1 = some x → xs = bs.map D.int) :
    tGx c.T (tI X.K c fz i) (tG X.K c.calm ts g) (tT X.K c.calm t) (tE X.K c.calm f) vs (fun r => r = bs.length) (.lst [.int 0]) (dSum fun H' => ∃ ρ' h', Nx (c.p X.K) ρ0 H0 ρ' h' H' ∧ Ed (c.p X.K) Wx ρ0 H0 (kk (bs.map D.int) h') (RV (c.p X.K)) Q) (ySum bs) σ H := by
  refine ⟨G, ρ, S, h, s, ?_⟩
  have e2 : Ed (c.p X.K) Wx ρ H (i S h) (fun ρ' Hb H' J ds => ItR (c.p X.K) (fz G Hb) ρ' H' J ds) fun J H1 => LamX.Tabs c.T H1 ∧ ∀ H2, LamX.ExtN H1 H2 → LamX.Tabs c.T H2 → (∀ b ps, H1 b = some (.tbl ps) → ∃ qs, H2 b = some (.tbl qs)) → ∀ L, H2 L = none → ∃ W : Nat → Nat → Nat → Hp → Prop, (∃ m r, (fun r => r = bs.length) r ∧ W 0 m r (upd H2 L (.lst [.int 0]))) ∧ GTurnN J (tG X.K c.calm ts g) (tT X.K c.calm t) (tE X.K c.calm f) (wipe σ vs) vs ((dSum fun H' => ∃ ρ' h', Nx (c.p X.K) ρ0 H0 ρ' h' H' ∧ Ed (c.p X.K) Wx ρ0 H0 (kk (bs.map D.int) h') (RV (c.p X.K)) Q) L) ((ySum bs) L) W := by
    refine e.bindAt n0 (rel := fun ρ' Hb H' J ds => ItR (c.p X.K) (fz G Hb) ρ' H' J ds) fun ds h1 ρ1 H1 J n1 it e1 => ⟨n1.tb, fun H2 hE hT2 htk A hA => ?_⟩
    have n2 : Nx (c.p X.K) ρ1 H1 ρ1 h1 H2 := .extN n1.hr hE hT2 htk
    have n02 := (n0.trans n1).trans n2
    have zA : H0 A = none := n02.old hA hr0
    have zA1 : H A = none := (n1.trans n2).old hA s.hr
    have nA1 : A ∉ ρ1 := n2.hr.free hA
    have n3 : Nx (c.p X.K) ρ1 H2 ρ1 h1 (upd H2 A (.lst [.int 0])) := .alloc n2.hr n2.tb hA
    obtain ⟨Gd, Y, supp, w, hsup, hgd, hy⟩ := it
    cases hL : gnL g t f (wipeS S vs) ds h1 with
    | none => simp only [hL] at e1; exact e1.elim
    | some bh =>
      obtain ⟨XS, hF⟩ := bh
      simp only [hL] at e1
      split at e1
      · rename_i hsz
        have eB : XS = bs.map D.int := by
          cases hk : kk XS hF with
          | none => rw [hk] at e1; exact e1.elim
          | some x => exact hbs _ _ _ hk
        let Fin : Nat → Nat → Nat → Hp → Prop := fun i m r H' => m = ds.length - i ∧ i ≤ ds.length ∧ ∃ ρ' h' av pre xs, Nx (c.p X.K) ρ0 H0 ρ' h' H' ∧ Nx (c.p X.K) ρ H ρ' h' H' ∧ Lt X.K ρ1 H1 ρ' H' ∧ (∀ q ∈ supp, H' q.1 = some q.2 ∧ NoTbl q.2 ∧ q.1 ∉ ρ' ∧ q.1 ≠ A) ∧ A ∉ ρ' ∧ H' A = some (.lst av) ∧ True ∧
          gnL g t f (wipeS S vs) (ds.drop i) h' = some (xs, hF) ∧ XS = pre ++ xs ∧ r = xs.length
        refine ⟨Fin, ⟨ds.length, XS.length, by rw [eB, List.length_map], by simp, Nat.zero_le _, ρ1, h1, [.int 0], [], XS, n02.trans n3, (n1.trans n2).trans n3, (n2.trans n3).lt n1.hr, fun q m => ?_, nA1, upd_same, trivial, by rw [List.drop_zero]; exact hL, rfl, rfl⟩, ?_⟩
        · obtain ⟨a1, a2, a3, _⟩ := hsup q m
          have a4 := n2.fr _ _ a1 a2 a3
          have ne := ne_of_none a4 hA
          exact ⟨by rw [upd_ne ne]; exact a4, a2, a3, ne⟩
        rintro i m r H' ⟨rfl, hi, ρ', h', av, pre, xs, n, nS, l, hs, na, ha, racc, fin, eX, rfl⟩
        have gd := hgd H' fun q m => (hs q m).1
        by_cases hlt : i < ds.length
        · refine .inr ⟨w.goes i H' hlt gd, fun r' H'' => Fin (i + 1) (ds.length - (i + 1)) r' H'', fun r' H'' z => ⟨_, by omega, z⟩, fun x H'' y => ?_⟩
          obtain ⟨n3, d, hd, dv⟩ := hy i ρ' h' H' x H'' l (fun q m => (hs q m).1) n.hr n.tb hlt (w.yields i H' x H'' hlt gd y)
          have ed : ds.drop i = d :: ds.drop (i + 1) := by
            obtain ⟨hlt, hv⟩ := List.getElem?_eq_some_iff.mp hd
            rw [List.drop_eq_getElem_cons hlt, hv]
          rw [ed] at fin
          simp only [gnL] at fin
          have s4 := s.nx (nS.trans n3)
          have sup : ∀ {ρa h_a Ha}, Nx (c.p X.K) ρ' H' ρa h_a Ha → (∀ q ∈ supp, Ha q.1 = some q.2 ∧ NoTbl q.2 ∧ q.1 ∉ ρa ∧ q.1 ≠ A) ∧ A ∉ ρa ∧ Ha A = some (.lst av) ∧ True := fun {ρa h_a Ha} nn => by
            refine ⟨fun q m => ?_, nn.fresh ha na, nn.fr _ _ ha (by intro ps z; cases z) na, trivial⟩
            obtain ⟨a1, a2, a3, a4⟩ := hs q m
            exact ⟨nn.fr _ _ a1 a2 a3, a2, nn.fresh a1 a3, a4⟩
          refine ⟨G, ρ', wipeS S vs, h', d, s4.wipe vs, dv, ?_⟩
          cases hg : g d (wipeS S vs) with
          | none => rw [hg] at fin; cases fin
          | some S1 =>
            rw [hg] at fin
            simp only at fin
            intro σ2 hl ho s5
            refine ⟨wipe_same hl fun k hk => ho k fun z => hk (hts k z), G, ρ', S1, h', s5, ?_⟩
            cases ht : t S1 h' with
            | none => rw [ht] at fin; cases fin
            | some r =>
              rw [ht] at fin
              cases r with
              | exc cc h3 => cases fin
              | ok b h3 =>
                intro ρ3 H3 b' n5 eb
                cases eb
                have n35 := n3.trans n5
                cases b with
                | false =>
                  obtain ⟨q1, q2, q3, q4⟩ := sup n35
                  exact iteF ⟨rfl, hlt, ρ3, h3, av, pre, xs, n.trans n35, nS.trans n35, l.trans (n35.lt n.hr), q1, q2, q3, q4, fin, eX, rfl⟩
                | true =>
                  refine iteT ⟨G, ρ3, S1, h3, s5.nx n5, ?_⟩
                  simp only at fin
                  cases hf : f S1 h3 with
                  | none => rw [hf] at fin; cases fin
                  | some r =>
                    rw [hf] at fin
                    cases r with
                    | exc cc h4 => cases fin
                    | ok r h4 =>
                      intro ρ4 H4 v n6 rv
                      have n36 := n35.trans n6
                      obtain ⟨q1, q2, q3, q4⟩ := sup n36
                      cases r with
                      | d vd =>
                        simp only at fin
                        cases hM : gnL g t f (wipeS S vs) (ds.drop (i + 1)) h4 with
                        | none => rw [hM] at fin; cases fin
                        | some z =>
                          obtain ⟨ys, h5⟩ := z
                          rw [hM] at fin
                          simp only [Option.some.injEq, Prod.mk.injEq] at fin
                          obtain ⟨rfl, rfl⟩ := fin
                          refine ⟨ys.length, rfl, ?_⟩
                          have eX2 : XS = (pre ++ [vd]) ++ ys := by rw [eX, List.append_assoc] <;> rfl
                          have hb : ∃ b, vd = .int b ∧ bs.reverse[ys.length]? = some b := by
                            have e3 := eX2
                            rw [eB] at e3
                            have e4 : (bs.map D.int)[pre.length]? = some vd := by rw [e3, List.append_assoc, List.getElem?_append_right (Nat.le_refl _), Nat.sub_self] <;> rfl
                            rw [List.getElem?_map] at e4
                            cases hb : bs[pre.length]? with
                            | none => rw [hb] at e4; cases e4
                            | some b =>
                              rw [hb] at e4
                              have hlen := congrArg List.length e3
                              rw [List.length_map, List.length_append, List.length_append, List.length_singleton] at hlen
                              refine ⟨b, (Option.some.inj e4).symm, ?_⟩
                              rw [List.getElem?_reverse (by omega), show bs.length - 1 - ys.length = pre.length by omega]
                              exact hb
                          obtain ⟨b, rfl, hb⟩ := hb
                          have ev : v = .int b := by cases rv; rfl
                          refine ⟨b, av, ev, hb, q3, fun tt => ⟨rfl, hlt, ρ4, h4, [.int tt], pre ++ [.int b], ys, (n.trans n36).wr zA q3 trivial q2, (nS.trans n36).wr zA1 q3 trivial q2, (l.trans (n36.lt n.hr)).trans (upd_lt q3 trivial), fun q m => ?_, q2, upd_same, trivial, hM, eX2, rfl⟩⟩
                          obtain ⟨a1, a2, a3, a4⟩ := q1 q m
                          exact ⟨by rw [upd_ne a4]; exact a1, a2, a3, a4⟩
                      | _ => cases fin
        · have e : i = ds.length := by omega
          subst e
          rw [List.drop_length] at fin
          simp only [gnL, Option.some.injEq, Prod.mk.injEq] at fin
          obtain ⟨rfl, rfl⟩ := fin
          rw [List.append_nil] at eX
          subst eX
          exact .inl ⟨w.stops H' gd, rfl, ρ', _, n, by rw [← eB]; exact e1⟩
      · exact e1.elim
  cases hi : i S h with
  | none => rw [hi] at e2; exact e2
  | some r =>
    rw [hi] at e2
    cases r with
    | ok ds h1 => exact e2
    | exc cc h1 => exact fun ρ' H' nn => hW _ _ _ (e2 ρ' H' nn)
end
end Sh
set_option Elab.async false
set_option linter.all false
set_option maxRecDepth 100000
set_option maxHeartbeats 2000000
namespace Sh
open PySem PySem.Spec PyProof.Rows L2
section
variable {X : Cx} {pins : List (Addr × Obj)} {σ : L2.St} {a : Addr} {s : Shared} {P : List V → Hp → Prop} {I0 : Nat → Prop} {k : Nat}
theorem code_tuple_x {A : Around} {E : Value → Shared → Prop} {Q1 : Value → Shared → Prop} (hB : A.in1.in1.handled = none) (hd : A.in1.in1.depth < recursionLimit) (hT : s.TypeIs (.ref a) "generator")
    (M : GMadeX X pins σ I0 (.lst []) (dCol P) yCol A.in1.in1 a s)
    (h : ∀ us acc H' s', Vals acc us → acc.length ≤ sizeLine → Inv X pins σ H' s' → P acc H' → Q1 (.ref s'.heap.objs.size) { s' with heap := s'.heap.push { cls := .type "tuple", data := .seq us.toArray } }) :
    codeAny (model X.prog X.w) A (.call (.builtin "tuple.__new__") ⟨[.type "tuple", .ref a], []⟩) (wants Q1 E) s := by
  refine codeAny_of_tree ?_
  show wpAny _ A.in1 (do checkBuiltinCall "tuple.__new__" ⟨[.type "tuple", .ref a], []⟩; again (.builtin "tuple.__new__" ⟨[.type "tuple", .ref a], []⟩)) _ _ s
  refine wpAny_bind (wpAny_of_eq (F.newCall_tuple_1 _) (wpAny_pure ⟨plainId_quiet F.plain_tuple_new _, codeAny_builtin F.entry_tuple_new ?_⟩))
  rw [Around.under_plainId F.plain_tuple_new _]
  have hsub := sub_tuple_self; have hinit := init_tuple_lookup; have hmh := madeHere_tuple
  wp_walk using wpAny_typeOf hT, collect_x (B := A.in1) hB hd (fun h => h) M
  intro us acc H' s' r hz I' pa
  show wpAny _ _ (Builtin.Tuple.tupleExact us.toArray >>= fun v => ret v) _ _ _
  unfold Builtin.Tuple.tupleExact
  refine wpAny_bind (wpAny_newObj_type ?_ (by show us.toArray.size ≤ sizeLine; rw [List.size_toArray, ← r.length]; exact hz))
  exact wpAny_pure (h us acc H' s' r hz I' pa)
theorem call_tupleX {Q : VK} (hr : Room k X.A) (M : GMadeX X pins σ I0 (.lst []) (dCol P) yCol (B3 X.A) a s) (hP : ∀ acc H', P acc H' → acc.length ≤ sizeLine) (hQ : ∀ acc H' l, P acc H' → H' l = none → Q (.ref l) (upd H' l (.tup acc))) :
    wpAny (model X.prog X.w) X.A (call (.type "tuple") [.ref a]) (EP X pins σ Q) X.xe s := by
  have hT : s.TypeIs (.ref a) "generator" := by
    obtain ⟨g, H, R, gs, hR, hgs, hRs, _⟩ := M.ex
    exact gen_type (hR.gen _ _ hRs)
  refine callType_codes (Q₁ := fun obj s₁ => s₁.TypeIs obj "tuple" ∧ EP X pins σ Q obj s₁) F.called_tuple (F.typeCall_tuple_1 _) F.entry_object_init
    (code_tuple_x (A := X.A.in1) hr.hd hr.depth hT M fun us acc H' s' r hz I' pa => ⟨⟨_, Heap.get?_push_size _ rfl, rfl⟩, ?_⟩) fun obj s₁ h₁ => ?_
  · refine ⟨.ref s'.heap.objs.size, upd H' s'.heap.objs.size (.tup acc), I'.laid (t' := s'.toks) (fun b u e => Heap.get?_push_of_some _ e) (Nat.le_refl _) ⟨hz, us, r, ⟨_, Heap.get?_push_size _ rfl, rfl, _, rfl⟩⟩, rfl, hQ acc H' _ pa (I'.hok.fresh (Nat.le_refl _))⟩
  · exact ⟨h₁.1, F.args_object_init_2 obj _, object_init_meets F.called_tuple.init.lookup F.called_tuple.made (by decide) X.prog X.w X.A.in1 _ s₁ ⟨h₁.1, rfl, h₁.2⟩⟩
theorem call_joinX {Q : VK} {z : Str} {t : Tok} (hr : Room k X.A) (M : GMadeX X pins σ I0 (.lst []) (dCol P) yCol (B3 X.A) a s)
    (hQ : ∀ acc H', P acc H' → ∃ ys : List Str, acc = ys.map V.str ∧ (ys.map (·.length)).sum + ys.length * z.length ≤ 16777216 ∧ Q (.str (Txt.join z ys)) H') :
    wpAny (model X.prog X.w) X.A (call (.builtin "str.join") [.str z t, .ref a]) (EP X pins σ Q) X.xe s := by
  obtain ⟨g, H, R, gs, hR, hgs, hRs, _⟩ := M.ex
  have hg := hR.gen _ _ hRs
  refine wpAny_call (codeAny_call_builtin PySem.F.slot_str_join.plain PySem.F.entry_str_join (PySem.F.slot_str_join.check _ _ _ _ _ _ _ _ (typeIs_str _ _ _) (PySem.F.args_str_join_2 _ _) ?_))
  rw [join_tree_other]
  refine wpAny_bind (wpAny_typeOf (gen_type hg) ?_)
  show wpAny _ X.A.in1 ((pyIter (.ref a)).tryCatch _ >>= fun it => collect it >>= fun items => joinTail z items) _ _ s
  refine wpAny_bind (wpAny_tryCatch (wpAny_pyIter_gen hg ?_))
  refine wpAny_bind (collect_x (B := X.A.in1) (B3 := B3 X.A) hr.hd hr.depth (fun h => wpAny_of_in1 h) M fun us acc H' s' r hz I' pa => ?_)
  obtain ⟨ys, rfl, hlen, q⟩ := hQ acc H' pa
  obtain ⟨l, rfl, rfl⟩ := PyProof.Rows.strsAre_values (strsAre_of r)
  have hok := PyProof.Rows.joinOk_of hlen
  unfold JoinOk at hok
  rw [Bool.not_eq_true'] at hok
  have g : Gives (joinTail z (strValues l)) (joinMade z l) := by
    have g0 := gives_joinTail z l hok
    cases l with
    | nil => exact g0
    | cons p rr => cases rr with
      | nil => exact g0
      | cons q r' => exact g0
  exact g X.prog X.w X.A (wants (EP X pins σ Q) X.xe) s' (post_join l ⟨joinFit_length hok, fun t' k => ⟨.str _, H', I'.tok _, ⟨t', rfl⟩, q⟩⟩)
theorem sum_loopX {bs : List Int} {Pd : Hp → Prop} {Rr : Result → Shared → Prop} {g : Nat} {L : Addr} (hB : (B3 X.A).handled = none) (hd : (B3 X.A).depth < recursionLimit) (fin : ∀ H' s' t, Inv X pins σ H' s' → Pd H' → Rr (.ok (.ret (.int bs.sum t))) s') :
    ∀ (n : Nat) (N : Hp → Prop) (H : Hp) (s : Shared) (tot : Int) (tA : Tok) (st : Int) (cc : Nat), (st = 0 ∨ st = 2) → n ≤ bs.length → tot = (bs.take (bs.length - n)).sum → s.heap.get? L = some { cls := .type "list", data := .seq #[.int tot tA] cc } → AliveX X pins σ a g (dSum Pd L) (ySum bs L) (B3 X.A) n N H s →
      codeAny (model X.prog X.w) X.A (.builtin "sum.loop" ⟨[.ref a, .ref L, rawInt st, rawInt 0], []⟩) Rr s := by
  have up : ∀ {α : Type} {t : Sem α} {Q : α → Shared → Prop} {E : Value → Shared → Prop} {s : Shared}, wpAny (model X.prog X.w) (B3 X.A) t Q E s → wpAny (model X.prog X.w) X.A.in1 t Q E s := fun h => wpAny_of_in1 (wpAny_of_in1 h)
  intro n
  induction n with
  | zero =>
    intro N H s tot tA st cc hst hn ht hL A
    refine codeAny_builtin PySem.F.entry_sum_loop ?_
    rw [Around.under_plainId PySem.F.plain_sum_loop _]
    show wpAny _ X.A.in1 (seqItems? (.ref L) >>= _) _ _ s
    refine wpAny_bind (wpAny_seqItems hL rfl ?_)
    show wpAny _ X.A.in1 (tryCatch (pyNext (.ref a)) _ >>= _) _ _ s
    refine wpAny_bind (wpAny_tryCatch (up (gx_next hB hd A (fun H' s' I' q => up ?_) fun v y N' H' s' R hR ry hq hRs hc => ?_)))
    · rw [Nat.sub_zero, List.take_length] at ht
      exact wpAny_pure (by rw [ht]; exact fin H' s' tA I' q.2)
    · obtain ⟨b, w, rfl, hb, hH, nx⟩ := hq
      obtain ⟨its, m, e, hl, hRs'⟩ : ∃ (its : List Value) (m : Nat), s'.heap.get? L = some { cls := .type "list", data := .seq its.toArray m } ∧ True ∧ R (upd H' L (.lst [V.int 0])) { s' with heap := s'.heap.update L (Obj.mapSeq fun _ => #[Value.int 0 0]) } := by
        obtain ⟨z, its, m, r, hl, e⟩ := (hR.inv _ _ hRs).lstM hH
        have q := PySem.IsL.update e (fun _ => #[Value.int 0 0])
        exact ⟨its, m, e, trivial, hR.write _ _ L _ _ s'.toks hRs (by rw [hH]; exact trivial) (fun b u hb hu => (Heap.get?_update_other s'.heap _ (Ne.symm hb)).trans hu) ⟨_, q⟩ ⟨by show 1 ≤ sizeLine; decide, [.int 0 0], _, .cons ⟨_, rfl⟩ .nil, q⟩⟩
      obtain ⟨n', en, _⟩ := hc _ _ (nx 0) hRs' rfl
      cases en
  | succ n ih =>
    intro N H s tot tA st cc hst hn ht hL A
    refine codeAny_builtin PySem.F.entry_sum_loop ?_
    rw [Around.under_plainId PySem.F.plain_sum_loop _]
    show wpAny _ X.A.in1 (seqItems? (.ref L) >>= _) _ _ s
    refine wpAny_bind (wpAny_seqItems hL rfl ?_)
    show wpAny _ X.A.in1 (tryCatch (pyNext (.ref a)) _ >>= _) _ _ s
    refine wpAny_bind (wpAny_tryCatch (up (gx_next hB hd A (fun H' s' I' q => ?_) fun v y N' H' s' R hR ry hq hRs hc => ?_)))
    · exact absurd q.1 (Nat.succ_ne_zero n)
    · obtain ⟨b, w, rfl, hb, hH, nx⟩ := hq
      obtain ⟨t, rfl⟩ := ry
      obtain ⟨z, its, m, r, hl, e⟩ := (hR.inv _ _ hRs).lstM hH
      have hb2 : bs.reverse[n]? = some b := hb
      rw [List.getElem?_reverse (by omega)] at hb2
      have ht2 : tot + b = (bs.take (bs.length - n)).sum := by
        rw [ht, show bs.length - n = (bs.length - (n + 1)) + 1 by omega, List.take_succ, show bs[bs.length - (n + 1)]? = some b by rw [← hb2]; congr 1; omega]
        simp
      have step : ∀ (hp : Heap) (tk tB : Tok) (cB : Nat), (∀ b u, b ≠ L → s'.heap.get? b = some u → hp.get? b = some u) → hp.get? L = some { cls := .type "list", data := .seq #[.int (tot + b) tB] cB } → AliveX X pins σ a g (dSum Pd L) (ySum bs L) (B3 X.A) n N' (upd H' L (.lst [V.int (tot + b)])) { s' with heap := hp, toks := tk } := fun hp tk tB cB k q => by
        have hRs' := hR.write _ _ L (.lst [V.int (tot + b)]) hp tk hRs (by rw [hH]; exact trivial) k ⟨_, q⟩ ⟨by show 1 ≤ sizeLine; decide, [.int (tot + b) tB], _, .cons ⟨_, rfl⟩ .nil, q⟩
        obtain ⟨n', en, A'⟩ := hc _ _ (nx (tot + b)) hRs' rfl
        cases en
        exact A'
      have sz : its.toArray.size ≤ sizeLine := by rw [List.size_toArray, ← r.length]; exact z
      rcases hst with rfl | rfl
      · show wpAny _ X.A.in1 (if (_ : Bool) = true then (mkInt (tot + b) >>= _) else _) _ _ _
        split
        · refine wpAny_bind (wpAny_mkInt ?_)
          show wpAny _ X.A.in1 (updateSeq L (fun _ => #[.int (tot + b) s'.toks]) >>= _) _ _ _
          refine wpAny_bind (wpAny_updateSeq e rfl (wpAny_pure ⟨plainId_quiet PySem.F.plain_sum_loop _, ih _ _ _ (tot + b) s'.toks 0 _ (.inl rfl) (by omega) ht2 (Heap.get?_update_self _ e rfl) (step _ _ _ _ (fun b u hb hu => (Heap.get?_update_other _ _ (Ne.symm hb)).trans hu) (Heap.get?_update_self _ e rfl))⟩) sz)
        · refine wpAny_bind (wpAny_rule ?_)
          refine wpAny_bind (wpAny_attempt (wpAny_holding (wpAny_add_int ?_)))
          show wpAny _ X.A.in1 (updateSeq L (fun _ => #[.int (tot + b) s'.toks]) >>= _) _ _ _
          refine wpAny_bind (wpAny_updateSeq e rfl ?_ sz)
          have e2 := Heap.get?_update_self (Obj.mapSeq fun _ => #[Value.int (tot + b) s'.toks]) e rfl
          refine wpAny_bind (wpAny_letGo ?_)
          refine wpAny_bind (wpAny_updateSeq e2 rfl (wpAny_pure ⟨plainId_quiet PySem.F.plain_sum_loop _, ih _ _ _ (tot + b) s'.toks 2 _ (.inr rfl) (by omega) ht2 (Heap.get?_update_self _ e2 rfl) (step _ _ _ _ (fun b u hb hu => (Heap.get?_update_other _ _ (Ne.symm hb)).trans ((Heap.get?_update_other _ _ (Ne.symm hb)).trans hu)) (Heap.get?_update_self _ e2 rfl))⟩))
      · show wpAny _ X.A.in1 ((holding [Value.int b t] (binaryOp .Add (.int tot tA) (.int b t))).attempt >>= _) _ _ _
        refine wpAny_bind (wpAny_attempt (wpAny_holding (wpAny_add_int ?_)))
        show wpAny _ X.A.in1 (updateSeq L (fun _ => #[.int (tot + b) s'.toks]) >>= _) _ _ _
        refine wpAny_bind (wpAny_updateSeq e rfl ?_ sz)
        have e2 := Heap.get?_update_self (Obj.mapSeq fun _ => #[Value.int (tot + b) s'.toks]) e rfl
        refine wpAny_bind (wpAny_letGo ?_)
        refine wpAny_bind (wpAny_updateSeq e2 rfl (wpAny_pure ⟨plainId_quiet PySem.F.plain_sum_loop _, ih _ _ _ (tot + b) s'.toks 2 _ (.inr rfl) (by omega) ht2 (Heap.get?_update_self _ e2 rfl) (step _ _ _ _ (fun b u hb hu => (Heap.get?_update_other _ _ (Ne.symm hb)).trans ((Heap.get?_update_other _ _ (Ne.symm hb)).trans hu)) (Heap.get?_update_self _ e2 rfl))⟩))
theorem call_sumX {bs : List Int} {Pd : Hp → Prop} {Q : VK} (hr : Room k X.A) (M : GMadeX X pins σ (fun r => r = bs.length) (.lst [.int 0]) (dSum Pd) (ySum bs) (B3 X.A) a s) (hQ : ∀ H', Pd H' → Q (.int bs.sum) H') :
    wpAny (model X.prog X.w) X.A (call (.builtin "sum") [.ref a]) (EP X pins σ Q) X.xe s := by
  obtain ⟨g, H, R, gs, hR, hgs, hRs, hgo⟩ := M.ex
  obtain ⟨n, N, hn, hN, goes⟩ := hgo s.heap.objs.size (Nat.le_refl _)
  have hg := hR.gen _ _ hRs
  refine call_function_tree PySem.F.kind_sum PySem.F.plain_sum PySem.F.entry_sum (PySem.F.args_sum1 _) ?_
  unfold Builtin.«sum»
  simp only [List.length_cons, List.length_nil]
  rw [if_neg (by decide)]
  refine wpAny_bind (wpAny_of_eq (show Builtin.Builtins.bindParams "sum" ["start"] 0 { } = pure [none] from rfl) ?_)
  refine wpAny_bind (wpAny_pyIter_gen hg ?_)
  refine wpAny_bind (wpAny_mkInt ?_)
  refine wpAny_bind (wpAny_pure ?_)
  simp only [List.forIn_cons, List.forIn_nil]
  refine wpAny_bind (wpAny_bind (wpAny_bind (wpAny_isInstance (T := "int") (b := false) (typeIs_int _ _ _) PySem.sub_int_str ?_)))
  simp only [Bool.false_eq_true, if_false]
  refine wpAny_pure (wpAny_bind (wpAny_bind (wpAny_isInstance (T := "int") (b := false) (typeIs_int _ _ _) PySem.sub_int_bytes ?_)))
  simp only [Bool.false_eq_true, if_false]
  refine wpAny_pure (wpAny_bind (wpAny_bind (wpAny_isInstance (T := "int") (b := false) (typeIs_int _ _ _) PySem.sub_int_bytearray ?_)))
  simp only [Bool.false_eq_true, if_false]
  refine wpAny_pure (wpAny_pure ?_)
  refine wpAny_bind (wpAny_newObj_type ?_)
  have new := Heap.get?_push_size s.heap (o := { cls := .type "list", data := .seq #[.int 0 s.toks] }) rfl
  have R1 := hR.laid _ _ s.heap.objs.size (.lst [.int 0]) (s.heap.push { cls := .type "list", data := .seq #[.int 0 s.toks] }) (s.toks + 1) hRs (fun b u e => Heap.get?_push_of_some _ e) (Nat.le_refl _) ⟨by show 1 ≤ sizeLine; decide, [.int 0 s.toks], 0, .cons ⟨_, rfl⟩ .nil, new⟩
  refine wpAny_pure ⟨plainId_quiet PySem.F.plain_sum_loop _, sum_loopX (bs := bs) (Pd := Pd) (g := g) (L := s.heap.objs.size) hr.hd hr.depth (fun H' s' t I' pd => ⟨.int bs.sum, H', I', ⟨t, rfl⟩, hQ H' pd⟩) n N _ _ 0 s.toks 0 0 (.inl rfl) (by omega) (by rw [hn, Nat.sub_self] <;> rfl) new ⟨R, gs, hR, hgs, R1, hN, goes⟩⟩
end
/-! ### the rules -/
def kTup : List D → Hs → Option (Rs R) := fun xs h => some (.ok (.d (.tup xs)) h)
def intsD : List D → Option (List Int)
  | [] => some []
  | .int i :: xs => match intsD xs with
    | some is => some (i :: is)
    | none => none
  | _ => none
theorem intsD_eq : ∀ {xs : List D} {bs : List Int}, intsD xs = some bs → xs = bs.map D.int
  | [], bs, h => by cases h; rfl
  | x :: xs, bs, h => by
    cases x with
    | int i =>
      simp only [intsD] at h
      cases e : intsD xs with
      | none => rw [e] at h; cases h
      | some is => rw [e] at h; cases h; rw [List.map_cons, ← intsD_eq e]
    | _ => cases h
def kSum : List D → Hs → Option (Rs R) := fun xs h => match intsD xs with
  | some bs => some (.ok (.d (.int bs.sum)) h)
  | none => none
def kSumB (bs : List Int) : List D → Hs → Option (Rs R) := fun xs h => match intsD xs with
  | some bs' => if bs' = bs then some (.ok (.d (.int bs.sum)) h) else none
  | none => none
def kJoin (z : Str) : List D → Hs → Option (Rs R) := fun xs h => match strsD xs with
  | some ys => if (ys.map (·.length)).sum + ys.length * z.length ≤ 16777216 then some (.ok (.d (.str (Txt.join z ys))) h) else none
  | none => none
theorem gnK_sum {i : IX} {vs : List Nat} {g : TGx} {t : TX} {f : EX} {S : Env'} {h : Hs} {x : Rs R} (e : gnK i vs g t f kSum S h = some x) : ∃ bs, gnK i vs g t f (kSumB bs) S h = some x := by
  unfold gnK andThen at e ⊢
  cases hi : i S h with
  | none => rw [hi] at e; cases e
  | some r =>
    rw [hi] at e
    cases r with
    | exc cc h1 => exact ⟨[], e⟩
    | ok ds h1 =>
      simp only at e ⊢
      cases hg : gnL g t f (wipeS S vs) ds h1 with
      | none => rw [hg] at e; cases e
      | some z =>
        obtain ⟨xs, h2⟩ := z
        rw [hg] at e
        simp only at e ⊢
        split at e
        · rename_i hz
          unfold kSum at e
          cases hb : intsD xs with
          | none => rw [hb] at e; cases e
          | some bs =>
            rw [hb] at e
            refine ⟨bs, ?_⟩
            unfold kSumB
            rw [if_pos hz, hb]
            simp only [if_true]
            exact e
        · cases e
section
variable {X : Cx} {c : Cc} {elt tg iter o : Expr} {pos gpos p apos : Pos} {ifs : List Expr} {k : Nat} {cc P : Addr} {scope : Scope} {own : List (Str × Nat)} {ts : List Nat} {i : IX} {g : TGx} {t : TX} {f : EX} {fz : FZ}
theorem ce_tupG (hr : Room k X.A) (hc : X.calm = true) (hN : X.N.Nodup) (S : GSc X.N X.env.scope scope own) (gt : GTab X c.T cc P) (hi : CI X c fz tg iter i) (hg : GFam4 X scope fun G => CG G c.calm tg ts g) (ht : GFam4 X scope fun G => CTs G c.calm ifs t) (he : GFam4 X scope fun G => CE G c.calm elt f)
    (hts : ∀ k, k ∈ ts → k ∈ own.map (·.2)) (hs : ∀ v, genFold iter X.env v = pure v) (hgl : Gl X "tuple") (hm : X.mg "tuple" = none)
    (hst : starEach [.GeneratorExp elt [⟨tg, iter, ifs, 0⟩] scope gpos] X.env = (false, eval (.GeneratorExp elt [⟨tg, iter, ifs, 0⟩] scope gpos) X.env) :: starEach [] X.env := by rfl) :
    CE X c (.Call (.Name "tuple" p) [.GeneratorExp elt [⟨tg, iter, ifs, 0⟩] scope gpos] [] pos) (gnK i (own.map (·.2)) g t f kTup) := by
  refine ⟨fun pins s σ H Q I h => ?_⟩
  obtain ⟨G, ρ, S0, hh, st, ed⟩ := h
  refine Call_ (ld_blt I hgl hm boot_tuple (PyProof.Rows.callWith_type1 (PyProof.Rows.args_cons ?_ hst) hst rfl))
  refine gen_makeX hr hc hN S gt hi hg ht he hs I (tGx_col hts st st.hr (.refl st.hr st.tb) (fun _ _ _ z => z) ed) fun a s' M => PyProof.Rows.args_nil (call_tupleX hr M (fun acc H' pa => pa.1) fun acc H' l pa hl => ?_)
  obtain ⟨_, ρ', h', xs, n, dv, e2⟩ := pa
  exact e2 ρ' _ (.ref l) (n.trans (.alloc n.hr n.tb hl)) (.tup (SqT.of upd_same) ((Nx.alloc n.hr n.tb hl).dvs n.hr dv))
theorem ce_sumG (hr : Room k X.A) (hc : X.calm = true) (hN : X.N.Nodup) (S : GSc X.N X.env.scope scope own) (gt : GTab X c.T cc P) (hi : CI X c fz tg iter i) (hg : GFam4 X scope fun G => CG G c.calm tg ts g) (ht : GFam4 X scope fun G => CTs G c.calm ifs t) (he : GFam4 X scope fun G => CE G c.calm elt f)
    (hts : ∀ k, k ∈ ts → k ∈ own.map (·.2)) (hs : ∀ v, genFold iter X.env v = pure v) (hgl : Gl X "sum") (hm : X.mg "sum" = none)
    (hst : starEach [.GeneratorExp elt [⟨tg, iter, ifs, 0⟩] scope gpos] X.env = (false, eval (.GeneratorExp elt [⟨tg, iter, ifs, 0⟩] scope gpos) X.env) :: starEach [] X.env := by rfl) :
    CE X c (.Call (.Name "sum" p) [.GeneratorExp elt [⟨tg, iter, ifs, 0⟩] scope gpos] [] pos) (gnK i (own.map (·.2)) g t f kSum) := by
  refine ⟨fun pins s σ H Q I h => ?_⟩
  obtain ⟨G, ρ, S0, hh, st, ed⟩ := h
  cases hx : gnK i (own.map (·.2)) g t f kSum S0 hh with
  | none => rw [hx] at ed; exact ed.elim
  | some x =>
    obtain ⟨bs, hb⟩ := gnK_sum hx
    rw [hx, ← hb] at ed
    refine Call_ (ld_blt I hgl hm boot_sum (PyProof.Rows.callWith_builtin1 (PyProof.Rows.args_cons ?_ hst) hst rfl))
    refine gen_makeX hr hc hN S gt hi hg ht he hs I (tGx_sum (bs := bs) hts st st.hr (.refl st.hr st.tb) (fun _ _ _ z => z) ed fun xs h1 x e => ?_) fun a s' M => PyProof.Rows.args_nil (call_sumX hr M fun H' pd => ?_)
    · unfold kSumB at e
      cases hb2 : intsD xs with
      | none => rw [hb2] at e; cases e
      | some b2 =>
        rw [hb2] at e
        simp only at e
        split at e
        · rename_i q; rw [← q]; exact intsD_eq hb2
        · cases e
    · obtain ⟨ρ', h', n, e2⟩ := pd
      have hm : ∀ l : List Int, intsD (l.map D.int) = some l := fun l => by
        induction l with
        | nil => rfl
        | cons a l ih => simp only [List.map_cons, intsD, ih]
      unfold kSumB at e2
      rw [hm bs] at e2
      simp only [if_true] at e2
      exact e2 ρ' H' _ n (.int _)
theorem ce_joinG {fo : EX} (hr : Room k X.A) (hc : X.calm = true) (hN : X.N.Nodup) (S : GSc X.N X.env.scope scope own) (gt : GTab X c.T cc P) (ho : CE X c o fo) (hi : CI X c fz tg iter i) (hg : GFam4 X scope fun G => CG G c.calm tg ts g) (ht : GFam4 X scope fun G => CTs G c.calm ifs t) (he : GFam4 X scope fun G => CE G c.calm elt f)
    (hts : ∀ k, k ∈ ts → k ∈ own.map (·.2)) (hs : ∀ v, genFold iter X.env v = pure v)
    (hst : starEach [.GeneratorExp elt [⟨tg, iter, ifs, 0⟩] scope gpos] X.env = [(false, eval (.GeneratorExp elt [⟨tg, iter, ifs, 0⟩] scope gpos) X.env)] := by rfl) (hbase : attributeBase o "join" X.env (eval o X.env) = eval o X.env := by rfl) (hline : (apos.endLine == pos.line) = true := by rfl) :
    CE X c (.Call (.Attribute o "join" apos) [.GeneratorExp elt [⟨tg, iter, ifs, 0⟩] scope gpos] [] pos) (fun S h => andThen (fo S h) fun a h1 => match strOf a with
      | some z => gnK i (own.map (·.2)) g t f (kJoin z) S h1
      | none => none) := by
  refine ⟨fun pins s σ H Q I h => ?_⟩
  obtain ⟨G, ρ, S0, hh, st, ed⟩ := h
  refine PySem.Call_method1 hbase hst hline (thn (ho.run pins s σ H (fun v H1 => ∃ z ρ1 h1, v = .str z ∧ Nx (c.p X.K) ρ H ρ1 h1 H1 ∧ Ed (c.p X.K) (fun cls d H' => c.W cls d σ H') ρ H (gnK i (own.map (·.2)) g t f (kJoin z) S0 h1) (RV (c.p X.K)) Q) I ⟨G, ρ, S0, hh, st, ed.bind (rel := RV (c.p X.K)) fun a h1 ρ1 H1 x n1 rx e1 => ?_⟩) fun v s1 ⟨x, H1, I1, r1, z, ρ1, h1, ex, n1, e1⟩ => ?_)
  · cases hz : strOf a with
    | none => simp only [hz] at e1; exact e1.elim
    | some z => simp only [hz] at e1; exact ⟨z, ρ1, h1, str_of rx hz, n1, e1⟩
  · subst ex
    obtain ⟨tk, rfl⟩ := _root_.id r1
    refine ⟨"str", _, PySem.F.plainAttrs_str, PySem.F.slot_str_join, PySem.F.type_str_join, typeIs_str _ _ _, (fun _ e => nomatch e), Calls.callWith_builtin rfl (Calls.evalArgs_plain (Calls.spliced_cons ?_))⟩
    refine gen_makeX hr hc hN S gt hi hg ht he hs I1 (tGx_col hts (st.nx n1) st.hr n1 (fun _ _ _ z => z) e1) fun a s' M => Calls.spliced_nil (call_joinX hr M fun acc H' pa => ?_)
    obtain ⟨_, ρ', h', xs, n, dv, e2⟩ := pa
    unfold kJoin at e2
    cases hy : strsD xs with
    | none => rw [hy] at e2; exact e2.elim
    | some ys =>
      rw [hy] at e2
      simp only at e2
      split at e2
      · rename_i hz
        exact ⟨ys, strs_of dv hy, hz, e2 ρ' H' _ n (.str _)⟩
      · exact e2.elim
end
end Sh
set_option Elab.async false
set_option linter.all false
set_option maxRecDepth 100000
set_option maxHeartbeats 2000000
namespace Sh
open PySem PySem.Spec PyProof.Rows L2
theorem over_in (B : Around) (elt tg iter tg1 iter1 : Expr) (ifs ifs1 : List Expr) (scope : Scope) (pos : Pos) (it it1 : Value) (env : Env) (k : Result → Sem PySem.Fin) (g l p) (c1 : Code) (hc : c1 = .compLoop (.GeneratorExp elt [⟨tg, iter, ifs, 0⟩, ⟨tg1, iter1, ifs1, 0⟩] scope pos) 1 it1 .none env ∨ c1 = .compStart (.GeneratorExp elt [⟨tg, iter, ifs, 0⟩, ⟨tg1, iter1, ifs1, 0⟩] scope pos) 1 it1 .none env) :
  B.over c1 [.ret k none g l (.compLoop (.GeneratorExp elt [⟨tg, iter, ifs, 0⟩, ⟨tg1, iter1, ifs1, 0⟩] scope pos) 0 it .none env) p []] = B.deeper env := by
  rcases hc with rfl | rfl
  · first
    | rfl
    | (obtain ⟨hd, d, fr, gs, u⟩ := B
       simp [Around.over, Around.deeper, Around.in1, marksOver, frameCount, unitsOf, envsOf, guardsOf, pushEnvs, pushGuards, Code.envs, Code.env?, Code.isFrame, Code.guards, Code.isGuard, Code.weight, Code.frames, Code.isCreation, Code.isCaller, Code.cUnits, Frame.where_, Frame.marks])
  · first
    | rfl
    | (obtain ⟨hd, d, fr, gs, u⟩ := B
       simp [Around.over, Around.deeper, Around.in1, marksOver, frameCount, unitsOf, envsOf, guardsOf, pushEnvs, pushGuards, Code.envs, Code.env?, Code.isFrame, Code.guards, Code.isGuard, Code.weight, Code.frames, Code.isCreation, Code.isCaller, Code.cUnits, Frame.where_, Frame.marks])
theorem compTurnG_out (elt t0 i0 t1 i1 : Expr) (ifs0 ifs1 : List Expr) (scope : Scope) (pos : Pos) (it acc : Value) (env : Env) :
    compTurn (.GeneratorExp elt [⟨t0, i0, ifs0, 0⟩, ⟨t1, i1, ifs1, 0⟩] scope pos) 0 it acc env = (do
      standAt i0.pos
      match ← pyNext it with
      | none => pure (.done .next)
      | some v =>
        letOwnedTupleGo t0 it v
        assign t0 env v
        let mut ok := true
        for c in ifs0 do
          if ok then ok ← isTrue c env (eval c env)
        if ok then
          let x ← eval i1 env
          standAt i1.pos
          let x ← foldedSetIterable i1 env x
          let _ ← runOwn (.compStart (.GeneratorExp elt [⟨t0, i0, ifs0, 0⟩, ⟨t1, i1, ifs1, 0⟩] scope pos) 1 (← holding [x] (pyIter x)) acc env) env
        again (.compLoop (.GeneratorExp elt [⟨t0, i0, ifs0, 0⟩, ⟨t1, i1, ifs1, 0⟩] scope pos) 0 it acc env)) := by rfl
theorem compTurnG_in (elt t0 i0 t1 i1 : Expr) (ifs0 ifs1 : List Expr) (scope : Scope) (pos : Pos) (it acc : Value) (env : Env) :
    compTurn (.GeneratorExp elt [⟨t0, i0, ifs0, 0⟩, ⟨t1, i1, ifs1, 0⟩] scope pos) 1 it acc env = (do
      standAt i1.pos
      match ← pyNext it with
      | none => pure (.done .next)
      | some v =>
        letOwnedTupleGo t1 it v
        assign t1 env v
        let mut ok := true
        for c in ifs1 do
          if ok then ok ← isTrue c env (eval c env)
        if ok then
          (do let v ← eval elt env; standAt elt.pos; let _ ← yieldOut env v)
        again (.compLoop (.GeneratorExp elt [⟨t0, i0, ifs0, 0⟩, ⟨t1, i1, ifs1, 0⟩] scope pos) 1 it acc env)) := by rfl

section
variable {M : Model} {A : Around} {R : GenEnd} {Y : Protocol} {n : Nat} {s₀ s : Shared} {c : Code}
/-- a loop within: its frame, and what its end comes to -/
theorem seg_runOwn {c' : Code} {env : Env} {K : Sem PySem.Fin} {H' : Value → Sem PySem.Fin} {gd : Bool → Bool} {lv : List Value → List Value} (hgd : gd false = false)
    (h : ∀ (kk : Result → Sem PySem.Fin) (ll : List Value) (p : Pos), (∀ (f : Flow) (n : Nat) (s₀ s' : Shared) (c1 : Code), Seg M A R Y n s₀ c (K.wrap .pure H' gd lv) [] s' → Seg M A R Y n s₀ c1 (leafOf (.ok f)) [.ret kk none false ll c p []] s') →
      Seg M A R Y n s₀ c' (M.den c') [.ret kk none false ll c p []] s) : Seg M A R Y n s₀ c ((runOwn c' env >>= fun _ => K).wrap .pure H' gd lv) [] s := by
  unfold runOwn
  rw [Sem.onRaise_eq_wrap, Sem.bind_eq_wrap', Sem.wrap_wrap, Sem.wrap_wrap]
  unfold run
  refine seg_call fun p => ?_
  have e : (fun g => gd (id (id g))) false = false := hgd
  rw [e]
  exact h _ _ p fun f n s₀ s' c1 hk => seg_leaf (.ok f) hk
end
/-- two clauses: what the turns are to do -/
def GTurn2 (J : It) (g : TG) (tt : TT) (wi1 : TI) (g1 : TG) (tt1 : TT) (te : TE) (σg : L2.St) (vs vs1 : List Nat) (Dn : DNT) (YQ : YNT) (W : Nat → Nat → Nat → Hp → Prop) : Prop := ∀ i m r H, W i m r H → (J.stop i H ∧ Dn r H) ∨ (J.go i H ∧ ∃ N : Nat → Hp → Prop, (∀ r' H', N r' H' → ∃ m', m' < m ∧ W (i + 1) m' r' H') ∧
  ∀ x H', J.yld i H x H' → g x σg H' fun σ2 H2 => wipe σ2 vs = σg ∧ tt σ2 H2 fun b H3 => if b = true then wi1 σ2 H3 fun J1 H4 => ∃ W1 : Nat → Nat → Nat → Hp → Prop, (∃ k, W1 0 k r H4) ∧ ∀ j k r' H, W1 j k r' H →
    (J1.stop j H ∧ N r' H) ∨ (J1.go j H ∧ ∃ N1 : Nat → Hp → Prop, (∀ r'' H', N1 r'' H' → ∃ k', k' < k ∧ W1 (j + 1) k' r'' H') ∧ ∀ x H', J1.yld j H x H' → g1 x (wipe σ2 vs1) H' fun σ3 H5 => wipe σ3 vs1 = wipe σ2 vs1 ∧ tt1 σ3 H5 fun b H6 =>
      if b = true then te σ3 H6 fun y H7 => ∃ r'', r' = r'' + 1 ∧ YQ r'' (N1 r'') y H7 else N1 r' H6) else N r H3)
section
variable {G X : Cx} {pins : List (Addr × Obj)} {σ σg : L2.St} {a : Addr} {gi : Nat} {vs vs1 : List Nat} {fp : List Addr} {tn : Nat → Heap → Prop} {B : Around} {elt tg iter tg1 iter1 : Expr} {ifs ifs1 : List Expr} {scope : Scope} {pos : Pos} {it : Addr} {J : It} {g g1 : TG} {tt tt1 : TT} {wi1 : TI} {te : TE} {Dn : DNT} {YQ : YNT} {W : Nat → Nat → Nat → Hp → Prop}
abbrev g2c (elt tg iter tg1 iter1 : Expr) (ifs ifs1 : List Expr) (scope : Scope) (pos : Pos) : Expr := .GeneratorExp elt [⟨tg, iter, ifs, 0⟩, ⟨tg1, iter1, ifs1, 0⟩] scope pos
/-- asleep within the second clause -/
def RIn (G : Cx) (pn : List (Addr × Obj)) (σ3 : L2.St) (fp1 : List Addr) (tn1 : Nat → Heap → Prop) (j : Nat) (H : Hp) (s : Shared) : Prop := Inv G pn σ3 H s ∧ tn1 j s.heap ∧ ∀ b ∈ fp1, H b = none
theorem rinv_in {pn : List (Addr × Obj)} {σ3 : L2.St} {fp1 : List Addr} {tn1 : Nat → Heap → Prop} (hgen : ∀ H s, Inv G pn σ3 H s → s.heap.IsGen a gi) (hback : ∀ H s, Inv G pn σ3 H s → Inv X pins σ H s)
    (keep : ∀ i h h', tn1 i h → (∀ b ∈ fp1, ∀ o, h.get? b = some o → h'.get? b = some o) → tn1 i h') (lt : ∀ i h, tn1 i h → ∀ b ∈ fp1, b < h.objs.size) (j : Nat) (hP : G.prog = X.prog) (hw : G.w = X.w) : RInv X pins σ a gi (RIn G pn σ3 fp1 tn1 j) where
  gen := fun H s h => hgen H s h.1
  inv := fun H s h => hback H s h.1
  gens := fun H s g' h hb => ⟨inv_gens h.1 hb, h.2⟩
  kept := fun H s h' t h k => ⟨h.1.kept k, keep _ _ _ h.2.1 fun b hb o e => k b o e, h.2.2⟩
  laid := fun H s L o h' t h k hL new => ⟨h.1.laid k hL (by rw [hP, hw]; exact new), keep _ _ _ h.2.1 fun b hb o e => k b o e, fun b hb => by
    rw [upd_ne (Nat.ne_of_lt (Nat.lt_of_lt_of_le (lt _ _ h.2.1 b hb) hL))]
    exact h.2.2 b hb⟩
  write := fun H s L o h' t h mu k he new => by
    have ne : ∀ b ∈ fp1, b ≠ L := fun b hb z => by rw [← z, h.2.2 b hb] at mu; exact mu
    exact ⟨h.1.write mu (.inl rfl) k he (by rw [hP, hw]; exact new), keep _ _ _ h.2.1 fun b hb o e => k b o (ne b hb) e, fun b hb => by rw [upd_ne (ne b hb)]; exact h.2.2 b hb⟩
theorem g_loop2 (hPr : G.prog = X.prog) (hWr : G.w = X.w) (hR : ∀ i, RInv X pins σ a gi (IGx G σg fp tn i)) (hgen : ∀ H s, Inv G [] σg H s → s.heap.IsGen a gi) (hback : ∀ H s, Inv G [] σg H s → Inv X pins σ H s) (hA : G.A = B.deeper G.env) (hc : G.calm = true) (hxe : G.xe = fun _ _ => False) (hex : G.ex = fp) (hpn : ∀ p ∈ G.pn, p.1 ∉ fp) (hco : G.env.scope.isCoroutine = false)
    (T : Turn G.prog G.w G.K tg J fp it tn) (hg : PG G tg g) (ht : PTs G ifs tt) (hi1 : PI G tg1 iter1 wi1) (hg1 : PG G tg1 g1) (ht1 : PTs G ifs1 tt1) (he : PE G elt te) (hs1 : ∀ x, foldedSetIterable iter1 G.env x = pure x) (hv : ∀ i ∈ vs1, i ∈ vs)
    (turn : GTurn2 J g tt wi1 g1 tt1 te σg vs vs1 Dn YQ W) (hσ : ∀ σ2 : L2.St, wipe σ2 vs = σg → σg.length = σ2.length ∧ ∀ (j : Nat) v, σg[j]? = some (some v) → σ2[j]? = some (some v)) :
    ∀ (m n i : Nat) (s₀ s : Shared) (H : Hp), W i m n H → IGx G σg fp tn i H s →
      Seg (model G.prog G.w) B (fun n s₀ r s₁ => r = .ok .next ∧ RPx X pins σ Dn n s₀ s₁) (YPx X pins σ a gi YQ) n s₀ (.compLoop (g2c elt tg iter tg1 iter1 ifs ifs1 scope pos) 0 (.ref it) .none G.env)
        ((model G.prog G.w).den (.compLoop (g2c elt tg iter tg1 iter1 ifs ifs1 scope pos) 0 (.ref it) .none G.env)) [] s := by
  have hov : B.over (.compLoop (g2c elt tg iter tg1 iter1 ifs ifs1 scope pos) 0 (.ref it) .none G.env) [] = G.A := by
    rw [hA]
    first
      | rfl
      | (obtain ⟨hd, d, fr, gs, u⟩ := B; simp [Around.over, Around.deeper, marksOver, frameCount, unitsOf, envsOf, guardsOf, pushEnvs, pushGuards, Code.envs, Code.env?, Code.isFrame, Code.guards, Code.isGuard, Code.weight, Code.frames, Code.isCreation, Code.isCaller, Code.cUnits])
  intro m
  induction m using Nat.strongRecOn with
  | ind m ih =>
    intro n i s₀ s H hw hI
    obtain ⟨I, st, fr⟩ := hI
    show Seg _ B _ _ _ s₀ _ ((compTurn (g2c elt tg iter tg1 iter1 ifs ifs1 scope pos) 0 (.ref it) .none G.env).onRaise (leaving G.env)) [] s
    rw [compTurnG_out, Sem.onRaise_eq_wrap]
    refine seg_bind_wrap (wpAny_standAt ?_)
    rcases turn i m n H hw with ⟨stop, qd⟩ | ⟨go, N, hN, step⟩
    · have td := T.done G rfl rfl rfl hc i [] s σg H (fun _ _ => False) I (igx_stat (i := i) hex hpn I fr) st stop
      refine seg_bind_wrap ?_
      rw [hov]
      refine thnF td fun r s1 ⟨hr, I1⟩ => ?_
      subst hr
      exact seg_end (.ok .next) ⟨rfl, H, hback H s1 I1, qd⟩
    · have ti := T.item G rfl rfl rfl hc i [] s σg H (fun _ _ => False) I (igx_stat (i := i) hex hpn I fr) st go
      refine seg_bind_wrap ?_
      rw [hov]
      refine thnF ti fun r s1 ⟨u, hr, h1⟩ => ?_
      subst hr
      refine seg_bind_wrap ?_
      rw [hov]
      refine thnF h1 fun _ s2 ⟨x, H2, I2, r2, y2, st2, fr2⟩ => ?_
      have I2' := I2.pinned (igx_stat (i := i) hex hpn I2 fr2) (T.obj _ _ st2)
      have back : ∀ {σ8 : L2.St} {s' : Shared} {H' : Hp}, σg.length = σ8.length → (∀ (j : Nat) v, σg[j]? = some (some v) → σ8[j]? = some (some v)) → Inv G ([] ++ pinsAt fp s2.heap) σ8 H' s' → IGx G σg fp tn (i + 1) H' s' := fun {σ8 s' H'} w1 w2 I' => by
        have pin' : ∀ b ∈ fp, ∀ o, s2.heap.get? b = some o → s'.heap.get? b = some o ∧ H' b = none := fun b hb o e =>
          let z := I'.pin (b, o) (List.mem_append_right _ (List.mem_append_right _ (mem_pinsAt hb e)))
          ⟨z.1, z.2.1⟩
        refine ⟨(I'.unpinned (pins := [])).weak w1 w2, T.keep _ _ _ st2 fun b hb o e => (pin' b hb o e).1, fun b hb => ?_⟩
        obtain ⟨o, e, _⟩ := T.obj _ _ st2 b hb
        exact (pin' b hb o e).2
      refine seg_bind_wrap ?_
      rw [hov]
      have ag := hg.run _ s2 σg H2 x u _ I2' r2 (step x H2 y2)
      rw [hxe] at ag
      refine thnF ag fun _ s3 ⟨σ3, H3, I3, hw3, q3⟩ => ?_
      refine seg_bind_wrap ?_
      rw [hov]
      have at_ := ht.run _ s3 σ3 H3 _ I3 q3
      rw [hxe] at at_
      refine thnF at_ fun b s4 ⟨H4, I4, q4⟩ => ?_
      obtain ⟨w1, w2⟩ := hσ σ3 hw3
      cases b with
      | false =>
        simp only [Bool.false_eq_true, if_false] at q4 ⊢
        obtain ⟨m', hm', w'⟩ := hN n H4 q4
        exact seg_again rfl (ih m' hm' n (i + 1) s₀ s4 H4 w' (back w1 w2 I4))
      | true =>
        simp only [if_true] at q4 ⊢
        have ai := hi1.run _ s4 σ3 H4 _ I4 q4
        rw [hxe] at ai
        refine seg_bind_wrap ?_
        rw [hov]
        refine thnF ai fun xv s5 hx => ?_
        refine seg_bind_wrap (wpAny_standAt ?_)
        refine seg_bind_wrap (wpAny_of_eq (hs1 xv) ?_)
        refine seg_bind_wrap ?_
        rw [hov]
        refine wpAny_holding (thnF hx fun itv s6 h6 => ?_)
        obtain ⟨it1, fp1, tn1, J1, H6, e6, I6, T1, st6, f6, W1, ⟨k1, hw1⟩, turn1⟩ := h6
        subst e6
        have wk : (wipe σ3 vs1).length = σ3.length := wipe_length _ _
        have I6' : Inv G ([] ++ pinsAt fp s2.heap) (wipe σ3 vs1) H6 s6 := I6.weak wk fun j v e => (wipe_some e).1
        have b1 : σg.length = (wipe σ3 vs1).length := by rw [wk]; exact w1
        have b2 : ∀ (j : Nat) v, σg[j]? = some (some v) → (wipe σ3 vs1)[j]? = some (some v) := fun j v e => by
          have e' := e
          rw [← hw3] at e'
          rw [wipe_out fun z => (wipe_some e').2 (hv j z)]
          exact w2 j v e
        have stat1 : ∀ {H' : Hp}, (∀ b ∈ fp1, H' b = none) → ∀ b ∈ fp1, FpOk G ([] ++ pinsAt fp s2.heap) H' b := fun hn b hb => ⟨hn b hb, (f6 b hb).2⟩
        have R1 : ∀ j, RInv X pins σ a gi (RIn G ([] ++ pinsAt fp s2.heap) (wipe σ3 vs1) fp1 tn1 j) := fun j => rinv_in
          (fun H s I => hgen H s ((I.unpinned (pins := [])).weak b1 b2)) (fun H s I => hback H s ((I.unpinned (pins := [])).weak b1 b2)) T1.keep (fun i h st b hb => by
            obtain ⟨o, e, _⟩ := T1.obj _ _ st b hb
            exact Heap.lt_size e) j hPr hWr
        refine seg_runOwn rfl fun kk ll p ret => ?_
        have hin : ∀ c1, (c1 = .compLoop (g2c elt tg iter tg1 iter1 ifs ifs1 scope pos) 1 (.ref it1) .none G.env ∨ c1 = .compStart (g2c elt tg iter tg1 iter1 ifs ifs1 scope pos) 1 (.ref it1) .none G.env) → B.over c1 [.ret kk none false ll (.compLoop (g2c elt tg iter tg1 iter1 ifs ifs1 scope pos) 0 (.ref it) .none G.env) p []] = G.A := fun c1 hc1 => by rw [hA]; exact over_in B elt tg iter tg1 iter1 ifs ifs1 scope pos (.ref it) (.ref it1) G.env kk false ll p c1 hc1
        have loop1 : ∀ (k n j : Nat) (s₀ s : Shared) (H : Hp), W1 j k n H → RIn G ([] ++ pinsAt fp s2.heap) (wipe σ3 vs1) fp1 tn1 j H s →
            Seg (model G.prog G.w) B (fun n s₀ r s₁ => r = .ok .next ∧ RPx X pins σ Dn n s₀ s₁) (YPx X pins σ a gi YQ) n s₀ (.compLoop (g2c elt tg iter tg1 iter1 ifs ifs1 scope pos) 1 (.ref it1) .none G.env)
              ((model G.prog G.w).den (.compLoop (g2c elt tg iter tg1 iter1 ifs ifs1 scope pos) 1 (.ref it1) .none G.env)) [.ret kk none false ll (.compLoop (g2c elt tg iter tg1 iter1 ifs ifs1 scope pos) 0 (.ref it) .none G.env) p []] s := by
          intro k
          induction k using Nat.strongRecOn with
          | ind k ih1 =>
            intro n j s₀ s H hw hI
            obtain ⟨I, st, fr⟩ := hI
            show Seg _ B _ _ _ s₀ _ ((compTurn (g2c elt tg iter tg1 iter1 ifs ifs1 scope pos) 1 (.ref it1) .none G.env).onRaise (fun x => do noteFrame x G.env; theTreesLotGoes x)) _ s
            rw [compTurnG_in, Sem.onRaise_eq_wrap]
            refine seg_bind_wrap (wpAny_standAt ?_)
            rcases turn1 j k n H hw with ⟨stop, nx⟩ | ⟨go, N1, hN1, step1⟩
            · have td := T1.done G rfl rfl rfl hc j _ s (wipe σ3 vs1) H (fun _ _ => False) I (stat1 fr) st stop
              refine seg_bind_wrap ?_
              rw [hin _ (.inl rfl)]
              refine thnF td fun r s1 ⟨hr, I1⟩ => ?_
              subst hr
              obtain ⟨m', hm', w'⟩ := hN n H nx
              exact ret .next n s₀ s1 _ (seg_again rfl (ih m' hm' n (i + 1) s₀ s1 H w' (back b1 b2 I1)))
            · have ti := T1.item G rfl rfl rfl hc j _ s (wipe σ3 vs1) H (fun _ _ => False) I (stat1 fr) st go
              refine seg_bind_wrap ?_
              rw [hin _ (.inl rfl)]
              refine thnF ti fun r s1 ⟨u, hr, h1⟩ => ?_
              subst hr
              refine seg_bind_wrap ?_
              rw [hin _ (.inl rfl)]
              refine thnF h1 fun _ s7 ⟨x1, H7, I7, r7, y7, st7, fr7⟩ => ?_
              have I7' := I7.pinned (stat1 fr7) (T1.obj _ _ st7)
              have back1 : ∀ {σ8 : L2.St} {s' : Shared} {H' : Hp}, wipe σ8 vs1 = wipe σ3 vs1 → Inv G (([] ++ pinsAt fp s2.heap) ++ pinsAt fp1 s7.heap) σ8 H' s' → RIn G ([] ++ pinsAt fp s2.heap) (wipe σ3 vs1) fp1 tn1 (j + 1) H' s' := fun {σ8 s' H'} hw8 I' => by
                have pin' : ∀ b ∈ fp1, ∀ o, s7.heap.get? b = some o → s'.heap.get? b = some o ∧ H' b = none := fun b hb o e =>
                  let z := I'.pin (b, o) (List.mem_append_right _ (List.mem_append_right _ (mem_pinsAt hb e)))
                  ⟨z.1, z.2.1⟩
                refine ⟨I'.unpinned.weak (by rw [← hw8, wipe_length]) (fun j v e => by rw [← hw8] at e; exact (wipe_some e).1), T1.keep _ _ _ st7 fun b hb o e => (pin' b hb o e).1, fun b hb => ?_⟩
                obtain ⟨o, e, _⟩ := T1.obj _ _ st7 b hb
                exact (pin' b hb o e).2
              refine seg_bind_wrap ?_
              rw [hin _ (.inl rfl)]
              have ag := hg1.run _ s7 (wipe σ3 vs1) H7 x1 u _ I7' r7 (step1 x1 H7 y7)
              rw [hxe] at ag
              refine thnF ag fun _ s8 ⟨σ8, H8, I8, hw8, q8⟩ => ?_
              refine seg_bind_wrap ?_
              rw [hin _ (.inl rfl)]
              have at1 := ht1.run _ s8 σ8 H8 _ I8 q8
              rw [hxe] at at1
              refine thnF at1 fun b s9 ⟨H9, I9, q9⟩ => ?_
              cases b with
              | false =>
                simp only [Bool.false_eq_true, if_false] at q9 ⊢
                obtain ⟨k', hk', w'⟩ := hN1 n H9 q9
                exact seg_again rfl (ih1 k' hk' n (j + 1) s₀ s9 H9 w' (back1 hw8 I9))
              | true =>
                simp only [if_true] at q9 ⊢
                have hy : ∀ v, yieldOut G.env v = yieldValue v := fun v => by simp only [yieldOut, hco, Bool.false_eq_true, if_false]
                simp only [hy]
                rw [Sem.bind_eq_wrap', Sem.bind_eq_wrap', Sem.wrap_wrap, Sem.wrap_wrap]
                refine seg_wrap ?_
                rw [hin _ (.inl rfl)]
                have ae := he.run _ s9 σ8 H9 _ I9 q9
                rw [hxe] at ae
                refine thnF ae fun v s10 ⟨y, H10, I10, r10, n', en, q10⟩ => ?_
                subst en
                refine seg_at (seg_yield rfl rfl rfl ⟨RIn G ([] ++ pinsAt fp s2.heap) (wipe σ3 vs1) fp1 tn1 (j + 1), y, H10, N1 n', R1 (j + 1), r10, back1 hw8 I10, q10, fun s'' H'' hI'' nx => ?_⟩)
                obtain ⟨k', hk', w'⟩ := hN1 n' H'' nx
                exact seg_again rfl (ih1 k' hk' n' (j + 1) s'' s'' H'' w' hI'')
        have l1 := loop1 k1 n 0 s₀ s6 H6 hw1 ⟨I6', st6, fun b hb => (f6 b hb).1⟩
        show Seg _ B _ _ _ s₀ _ ((compStart (g2c elt tg iter tg1 iter1 ifs ifs1 scope pos) 1 (.ref it1) .none G.env).onRaise (fun x => do noteFrame x G.env; standAt theWindowsPlace)) _ s6
        unfold compStart
        rw [Sem.onRaise_eq_wrap]
        show Seg _ B _ _ _ s₀ _ ((ask >>= _).wrap _ _ _ _) _ s6
        refine seg_bind_wrap (wpAny_askSetting ?_)
        split
        · exact seg_again rfl l1
        · first
            | exact seg_bind_wrap (wpAny_rule (seg_bind_wrap (wpAny_standAt (seg_bind_wrap (T1.self _ 0 s6 _ _ st6 (seg_again rfl l1))))))
            | (refine seg_bind_wrap (wpAny_rule ?_); show Seg _ B _ _ _ s₀ _ ((standAt iter1.pos >>= _).wrap _ _ _ _) _ s6; exact seg_bind_wrap (wpAny_standAt (seg_bind_wrap (T1.self _ 0 s6 _ _ st6 (seg_again rfl l1)))))
theorem g_begin2 (hPr : G.prog = X.prog) (hWr : G.w = X.w) (hR : ∀ i, RInv X pins σ a gi (IGx G σg fp tn i)) (hgen : ∀ H s, Inv G [] σg H s → s.heap.IsGen a gi) (hback : ∀ H s, Inv G [] σg H s → Inv X pins σ H s) (hA : G.A = B.deeper G.env) (hc : G.calm = true) (hxe : G.xe = fun _ _ => False) (hex : G.ex = fp) (hpn : ∀ p ∈ G.pn, p.1 ∉ fp) (hco : G.env.scope.isCoroutine = false)
    (T : Turn G.prog G.w G.K tg J fp it tn) (hg : PG G tg g) (ht : PTs G ifs tt) (hi1 : PI G tg1 iter1 wi1) (hg1 : PG G tg1 g1) (ht1 : PTs G ifs1 tt1) (he : PE G elt te) (hs1 : ∀ x, foldedSetIterable iter1 G.env x = pure x) (hv : ∀ i ∈ vs1, i ∈ vs)
    (turn : GTurn2 J g tt wi1 g1 tt1 te σg vs vs1 Dn YQ W) (hσ : ∀ σ2 : L2.St, wipe σ2 vs = σg → σg.length = σ2.length ∧ ∀ (j : Nat) v, σg[j]? = some (some v) → σ2[j]? = some (some v))
    {m n : Nat} {s₀ s : Shared} {H : Hp} (hw : W 0 m n H) (hI : IGx G σg fp tn 0 H s) :
      Seg (model G.prog G.w) B (fun n s₀ r s₁ => r = .ok .next ∧ RPx X pins σ Dn n s₀ s₁) (YPx X pins σ a gi YQ) n s₀ (.compStart (g2c elt tg iter tg1 iter1 ifs ifs1 scope pos) 0 (.ref it) .none G.env)
        ((model G.prog G.w).den (.compStart (g2c elt tg iter tg1 iter1 ifs ifs1 scope pos) 0 (.ref it) .none G.env)) [] s := by
  have loop := g_loop2 (iter := iter) (iter1 := iter1) (scope := scope) (pos := pos) hPr hWr hR hgen hback hA hc hxe hex hpn hco T hg ht hi1 hg1 ht1 he hs1 hv turn hσ m n 0 s₀ s H hw hI
  show Seg _ B _ _ _ s₀ _ ((compStart (g2c elt tg iter tg1 iter1 ifs ifs1 scope pos) 0 (.ref it) .none G.env).onRaise (leaving G.env)) [] s
  unfold compStart
  rw [Sem.onRaise_eq_wrap]
  show Seg _ B _ _ _ s₀ _ ((ask >>= _).wrap _ _ _ _) [] s
  refine seg_bind_wrap (wpAny_askSetting ?_)
  split
  · exact seg_again rfl loop
  · first
      | exact seg_bind_wrap (wpAny_rule (seg_bind_wrap (wpAny_standAt (seg_bind_wrap (T.self _ 0 s _ _ hI.2.1 (seg_again rfl loop))))))
      | (refine seg_bind_wrap (wpAny_rule ?_); show Seg _ B _ _ _ s₀ _ ((standAt iter.pos >>= _).wrap _ _ _ _) [] s; exact seg_bind_wrap (wpAny_standAt (seg_bind_wrap (T.self _ 0 s _ _ hI.2.1 (seg_again rfl loop)))))
end
end Sh
set_option Elab.async false
set_option linter.all false
set_option maxRecDepth 100000
set_option maxHeartbeats 2000000
namespace Sh
open PySem PySem.Spec PyProof.Rows L2
def tGx2 (T : List (Addr × Str)) (wi : TI) (g : TG) (tt : TT) (wi1 : TI) (g1 : TG) (tt1 : TT) (te : TE) (vs vs1 : List Nat) (I0 : Nat → Prop) (O : HO) (Dn : Addr → DNT) (YQ : Addr → YNT) : L2.St → Hp → Prop := fun σ H => wi σ H fun J H1 => LamX.Tabs T H1 ∧ ∀ H2, LamX.ExtN H1 H2 → LamX.Tabs T H2 → (∀ b ps, H1 b = some (.tbl ps) → ∃ qs, H2 b = some (.tbl qs)) →
  ∀ L, H2 L = none → ∃ W : Nat → Nat → Nat → Hp → Prop, (∃ m r, I0 r ∧ W 0 m r (upd H2 L O)) ∧ GTurn2 J g tt wi1 g1 tt1 te (wipe σ vs) vs vs1 (Dn L) (YQ L) W
theorem eval_gen2 (elt tg iter tg1 iter1 : Expr) (ifs ifs1 : List Expr) (scope : Scope) (pos : Pos) (env : Env) (hco : scope.isCoroutine = false) :
    eval (g2c elt tg iter tg1 iter1 ifs ifs1 scope pos) env = (do
      let x ← eval iter env
      standAt iter.pos
      let x ← genFold iter env x
      let it ← holding [x] (pyIter x)
      enterFrame
      let cl ← closureFor scope env
      let code ← genexprCode env pos (env.qual ++ "<genexpr>") scope
      let bi ← builtinsFor env.globals env.builtins
      let cenv ← newFunctionEnv scope env.globals cl [(".0", it)] (env.qual ++ "<genexpr>.") none code none bi
      newGenerator (.compStart (g2c elt tg iter tg1 iter1 ifs ifs1 scope pos) 0 it .none cenv) "<genexpr>" (env.qual ++ "<genexpr>")) := by
  rw [arm_eval_GeneratorExp]
  simp only [hco, Bool.false_eq_true, if_false]
  cases iter <;> rfl
theorem make_gen2 {M : Model} {A : Around} {E : Value → Shared → Prop} {s : Shared} {env : Env} {elt tg iter tg1 iter1 : Expr} {ifs ifs1 : List Expr} {scope : Scope} {cl : List (Str × Addr)} {pos : Pos} {Q : Value → Shared → Prop}
    (hco : scope.isCoroutine = false) (hclos : closureFor scope env = pure cl) (hcell : ∀ y ∈ scope.names, y.2 ≠ .cell) (h0 : scope.names.lookup (".0" : Str) = some NameKind.local) (hkind : scope.kind = .function) (hroom : A.depth < recursionLimit)
    (h : wpAny M A (eval iter env) (fun xv s₁ => wpAny M A (pyIter xv) (fun it s₂ => s₂.heap.NoLimit ∧ wpAny M A (genexprCode env pos (env.qual ++ "<genexpr>") scope) (fun code s₃ => wpAny M A (builtinsFor env.globals env.builtins) (fun bi s₄ =>
        ∀ h', h'.Ns s₄.heap.objs.size (fun y => if y = ".0" then some it else none) → Heap.SameBut s₄.heap.objs.size (s₄.heap.push { cls := .type "frame", data := .dict #[] }) h' →
          Q (.ref h'.objs.size) { s₄ with gens := s₄.gens.push (.fresh (.compStart (g2c elt tg iter tg1 iter1 ifs ifs1 scope pos) 0 it .none (genEnv scope cl s₄.heap.objs.size code bi env))), toks := s₄.toks + 1 + 1 + 1, heap := h'.push { cls := .type "generator", data := .fields #[.int s₄.gens.size 0, .str "<genexpr>" (s₄.toks + 1), .str (env.qual ++ "<genexpr>") (s₄.toks + 1 + 1)] } }) E s₃) E s₂) E s₁) E s)
    (hs : ∀ x, genFold iter env x = pure x) : wpAny M A (eval (g2c elt tg iter tg1 iter1 ifs ifs1 scope pos) env) Q E s := by
  rw [eval_gen2 _ _ _ _ _ _ _ _ _ _ hco, hclos]
  refine wpAny_bind (wpAny_mono h (fun xv s1 h1 => ?_) fun _ _ e => e)
  refine wpAny_bind (wpAny_standAt (wpAny_bind (wpAny_of_eq (hs xv) ?_)))
  refine wpAny_bind (wpAny_holding (wpAny_mono h1 (fun it s2 h2 => ?_) fun _ _ e => e))
  refine wpAny_bind (wpAny_enterFrame h2.1 hroom (wpAny_bind (wpAny_pure ?_)))
  refine wpAny_bind (wpAny_mono h2.2 (fun code s3 h3 => ?_) fun _ _ e => e)
  refine wpAny_bind (wpAny_mono h3 (fun bi s4 h4 => ?_) fun _ _ e => e)
  have hb : ∀ y ∈ ([((".0" : Str), it)] : List (Str × Value)), scope.names.lookup y.1 = some NameKind.local := by
    intro y hy
    cases List.mem_singleton.mp hy
    exact h0
  refine wpAny_bind (wpAny_newFunctionEnv hcell hb (fun h' hn hs2 => ?_) hkind)
  have e : (fun y : Str => ([((".0" : Str), it)] : List (Str × Value)).reverse.lookup y) = fun y : Str => if y = (".0" : Str) then some it else none := by
    funext y
    by_cases hy : y = ".0"
    · subst hy; simp
    · have : (y == (".0" : Str)) = false := by simpa using hy
      simp [List.lookup, this, hy]
  rw [e] at hn
  simp only [newGenerator, newFields]
  refine wpAny_bind (wpAny_newGen (wpAny_bind (wpAny_mkText (wpAny_bind (wpAny_mkText (wpAny_newObj_type ?_ (by size_fits)))))))
  exact h4 h' hn hs2
section
variable {X : Cx} {pins : List (Addr × Obj)} {σ : L2.St} {H : Hp} {s : Shared}
theorem gen_make2X {k : Nat} {T : List (Addr × Str)} {c P : Addr} {elt tg iter tg1 iter1 : Expr} {ifs ifs1 : List Expr} {vs1 : List Nat} {wi1 : TI} {g1 : TG} {tt1 : TT} {scope : Scope} {own : List (Str × Nat)} {gpos : Pos} {wi : TI} {g : TG} {tt : TT} {te : TE} {I0 : Nat → Prop} {O : HO} {Dn : Addr → DNT} {YQ : Addr → YNT} {Q' : Value → Shared → Prop}
    (hr : Room k X.A) (hc : X.calm = true) (hN : X.N.Nodup) (S : GSc X.N X.env.scope scope own) (gt : GTab X T c P) (hi : PI X tg iter wi) (hg : GFam4 X scope fun G => PG G tg g) (ht : GFam4 X scope fun G => PTs G ifs tt) (hi1 : GFam4 X scope fun G => PI G tg1 iter1 wi1) (hg1 : GFam4 X scope fun G => PG G tg1 g1) (ht1 : GFam4 X scope fun G => PTs G ifs1 tt1) (he : GFam4 X scope fun G => PE G elt te) (hs1 : ∀ env x, foldedSetIterable iter1 env x = pure x) (hv : ∀ i ∈ vs1, i ∈ own.map (·.2))
    (hs : ∀ v, genFold iter X.env v = pure v) (I : Inv X pins σ H s) (h : tGx2 T wi g tt wi1 g1 tt1 te (own.map (·.2)) vs1 I0 O Dn YQ σ H)
    (hQ : ∀ a s', GMadeX X pins σ I0 O Dn YQ (B3 X.A) a s' → Q' (.ref a) s') :
    wpAny (model X.prog X.w) X.A (eval (g2c elt tg iter tg1 iter1 ifs ifs1 scope gpos) X.env) Q' X.xe s := by
  have hfree : ∀ y ∈ scope.names, y.2 = .free → ∃ c, X.env.cells.lookup y.1 = some c := fun y hy e => by
    rcases S.blk.free y hy e with k | k
    · exact I.ok.has _ (.inl k)
    · exact I.ok.has _ (.inr k)
  refine make_gen2 S.co (closure_ok hfree) S.cell S.dot S.blk.kind hr.depth (thn (hi.run pins s σ H _ I h) fun xv s1 h1 => thn h1 fun itv s2 h2 => ?_) hs
  obtain ⟨it, fp, tn, J, H2, e, I2, T2, st2, f2, hT, q⟩ := h2
  subst e
  refine ⟨I2.nolimit, ?_⟩
  refine g_code I2 gt hT fun code H3 s3 st hP => ?_
  obtain ⟨I3, hE, hT3, hk, hnn, htk, hsz⟩ := st
  obtain ⟨bm, ob, e1, e2, e3, e4, e5, e6, e7, e8⟩ := gt.tb.bm
  refine wpAny_builtinsFor (m := X.mg) (by rw [I3.ok.glob]; exact I3.mod.glob.keeps I3.bk) e1 e2 (I3.bk _ _ e5) e6 e7 e8 ?_
  intro h' hn' hs'
  have ltf : ∀ i h, tn i h → ∀ b ∈ fp, b < h.objs.size := fun i h st b hb => by
    obtain ⟨o, e, _⟩ := T2.obj _ _ st b hb
    exact Heap.lt_size e
  have neP : ∀ b ∈ fp, b ≠ P := fun b hb z => hP (by rw [← z]; exact (f2 b hb).1)
  have f3 : ∀ b ∈ fp, FpOk X pins H3 b ∧ b < s3.heap.objs.size := fun b hb => ⟨⟨hnn b (ltf _ _ st2 b hb) (f2 b hb).1, (f2 b hb).2⟩, Nat.lt_of_lt_of_le (ltf _ _ st2 b hb) hsz⟩
  have kp : ∀ b o, s3.heap.get? b = some o → ∀ go : Obj, (h'.push go).get? b = some o := fun b o e go => Heap.get?_push_of_some _ (hs'.extBut b o (Nat.ne_of_lt (Heap.lt_size e)) (Heap.get?_push_of_some _ e))
  have IG := g_start (gs := .fresh (.compStart (g2c elt tg iter tg1 iter1 ifs ifs1 scope gpos) 0 (.ref it) .none (genEnv scope (cloFrom X.env.cells scope.names []) s3.heap.objs.size code builtinsNs X.env))) (tk := s3.toks + 1 + 1 + 1) (B := in4 X.A)
    (go := { cls := .type "generator", data := .fields #[.int s3.gens.size 0, .str "<genexpr>" (s3.toks + 1), .str (X.env.qual ++ "<genexpr>") (s3.toks + 1 + 1)] }) (code := code) I3 S hN hr.hd I3.ok.frames f3 hn' hs' rfl (fun v z => by cases z) (by intro z; cases z)
  have hpn : ∀ p ∈ [(h'.objs.size, ({ cls := .type "generator", data := .fields #[.int s3.gens.size 0, .str "<genexpr>" (s3.toks + 1), .str (X.env.qual ++ "<genexpr>") (s3.toks + 1 + 1)] } : Obj))], p.1 ∉ fp := fun p hp hb => by
    rw [List.mem_singleton.mp hp] at hb
    have h1 := (f3 _ hb).2
    rw [show h'.objs.size = s3.heap.objs.size + 1 by rw [hs'.1, Heap.size_push]] at h1
    exact absurd h1 (Nat.not_lt.mpr (Nat.le_succ _))
  have hgen : ∀ H s, Inv (gCx X (in4 X.A) s3 H3 (genEnv scope (cloFrom X.env.cells scope.names []) s3.heap.objs.size code builtinsNs X.env) fp [(h'.objs.size, { cls := .type "generator", data := .fields #[.int s3.gens.size 0, .str "<genexpr>" (s3.toks + 1), .str (X.env.qual ++ "<genexpr>") (s3.toks + 1 + 1)] })]) [] (wipe σ (own.map (·.2))) H s → s.heap.IsGen h'.objs.size s3.gens.size := fun H s I =>
    ⟨_, _, _, (I.pin _ (List.mem_append_left _ (List.mem_singleton.mpr rfl))).1, rfl, rfl, rfl⟩
  have hback : ∀ H s, Inv (gCx X (in4 X.A) s3 H3 (genEnv scope (cloFrom X.env.cells scope.names []) s3.heap.objs.size code builtinsNs X.env) fp [(h'.objs.size, { cls := .type "generator", data := .fields #[.int s3.gens.size 0, .str "<genexpr>" (s3.toks + 1), .str (X.env.qual ++ "<genexpr>") (s3.toks + 1 + 1)] })]) [] (wipe σ (own.map (·.2))) H s → Inv X pins σ H s := fun H s I =>
    I3.call' (ch := fp) I.os I.base I.hok I.bare fun b hb => ⟨(f3 b hb).1.2.2.2.1, (f3 b hb).1.2.1, (f3 b hb).1.2.2.2.2.1, (f3 b hb).1.2.2.2.2.2⟩
  have hR := fun i => rinv_igx (X := X) (pins := pins) (σ := σ) (a := h'.objs.size) (g := s3.gens.size) (fp := fp) (tn := tn) hgen hback T2.keep ltf i
  refine hQ _ _ ⟨⟨s3.gens.size, H3, IGx _ (wipe σ (own.map (·.2))) fp tn 0, _, hR 0, Array.getElem?_push_size .., ⟨IG, ?_, fun b hb => (f3 b hb).1.1⟩, fun L hL => ?_⟩⟩
  · exact T2.keep _ _ _ st2 fun b hb o e => kp b o (hk b o (neP b hb) e) _
  · have hL3 : H3 L = none := I3.hok.fresh (by
      refine Nat.le_trans ?_ hL
      have : h'.objs.size = s3.heap.objs.size + 1 := by rw [hs'.1, Heap.size_push]
      show s3.heap.objs.size ≤ (h'.push _).objs.size
      rw [Heap.size_push, this]
      omega)
    obtain ⟨W, ⟨m, r, hr0, hw⟩, turn⟩ := q H3 hE hT3 htk L hL3
    refine ⟨r, fun H => W 0 m r H, hr0, hw, fun s'' H'' hI hw' => ?_⟩
    refine ⟨rfl, ?_⟩
    exact g_begin2 (X := X) (pins := pins) (σ := σ) (B := in4 X.A) (g := g) (tt := tt) (te := te) (by rfl) (by rfl) hR hgen hback rfl rfl rfl rfl hpn S.co T2 (hg _ _ _ _ _ _ _) (ht _ _ _ _ _ _ _) (hi1 _ _ _ _ _ _ _) (hg1 _ _ _ _ _ _ _) (ht1 _ _ _ _ _ _ _) (he _ _ _ _ _ _ _) (hs1 _) hv turn
      (fun σ2 h2 => by
        refine ⟨by rw [← h2, wipe_length], fun j v e => ?_⟩
        rw [← h2] at e
        exact (wipe_some e).1) hw' hI
end
def gn2L (g : TGx) (t : TX) (i1 : IX) (vs1 : List Nat) (g1 : TGx) (t1 : TX) (f : EX) (Sw : Env') : List D → Hs → Option (List D × Hs)
  | [], h => some ([], h)
  | d :: ds, h => match g d Sw with
    | none => none
    | some S1 => match t S1 h with
      | some (.ok false h1) => gn2L g t i1 vs1 g1 t1 f Sw ds h1
      | some (.ok true h1) => match i1 S1 h1 with
        | some (.ok es h2) => match gnL g1 t1 f (wipeS S1 vs1) es h2 with
          | some (ys, h3) => (match gn2L g t i1 vs1 g1 t1 f Sw ds h3 with
            | some (zs, h4) => some (ys ++ zs, h4)
            | none => none)
          | none => none
        | _ => none
      | _ => none
def gnK2 (i : IX) (vs : List Nat) (g : TGx) (t : TX) (i1 : IX) (vs1 : List Nat) (g1 : TGx) (t1 : TX) (f : EX) (kk : List D → Hs → Option (Rs R)) : EX := fun S h => andThen (i S h) fun ds h1 => match gn2L g t i1 vs1 g1 t1 f (wipeS S vs) ds h1 with
  | some (xs, h2) => if xs.length ≤ sizeLine then kk xs h2 else none
  | none => none
section
variable {X : Cx} {c : Cc} {e elt tg iter : Expr} {pos gpos p : Pos} {ifs : List Expr}
theorem tGx2_col {vs ts vs1 ts1 : List Nat} {i i1 : IX} {g g1 : TGx} {t t1 : TX} {f : EX} {σ : L2.St} {H0 H : Hp} {Q : VK} {fz : FZ} {G : List (Addr × HO)} {ρ0 ρ : List Addr} {S : Env'} {h0 h : Hs} {kk : List D → Hs → Option (Rs R)} {Wx : XK} (ko : KeepO g) (hts : ∀ k, k ∈ ts → k ∈ vs) (hts1 : ∀ k, k ∈ ts1 → k ∈ vs1)
    (s : Stt (c.p X.K) c.ρ0 c.H0 G ρ S h σ H) (hr0 : HR (c.p X.K) ρ0 h0 H0) (n0 : Nx (c.p X.K) ρ0 H0 ρ h H) (hW : ∀ cls d H', Wx cls d H' → c.W cls d σ H') (e : Ed (c.p X.K) Wx ρ0 H0 (gnK2 i vs g t i1 vs1 g1 t1 f kk S h) (RV (c.p X.K)) Q) :
    tGx2 c.T (tI X.K c fz i) (tG X.K c.calm ts g) (tT X.K c.calm t) (tI X.K c.calm (fzS c.calm) i1) (tG X.K c.calm ts1 g1) (tT X.K c.calm t1) (tE X.K c.calm f) vs vs1 (fun _ => True) (.lst []) (dCol fun acc H' => acc.length ≤ sizeLine ∧ ∃ ρ' h' xs, Nx (c.p X.K) ρ0 H0 ρ' h' H' ∧ DVs X.K ρ' H' acc xs ∧ Ed (c.p X.K) Wx ρ0 H0 (kk xs h') (RV (c.p X.K)) Q) yCol σ H := by
  refine ⟨G, ρ, S, h, s, ?_⟩
  have e2 : Ed (c.p X.K) Wx ρ H (i S h) (fun ρ' Hb H' J ds => ItR (c.p X.K) (fz G Hb) ρ' H' J ds) fun J H1 => LamX.Tabs c.T H1 ∧ ∀ H2, LamX.ExtN H1 H2 → LamX.Tabs c.T H2 → (∀ b ps, H1 b = some (.tbl ps) → ∃ qs, H2 b = some (.tbl qs)) → ∀ L, H2 L = none → ∃ W : Nat → Nat → Nat → Hp → Prop, (∃ m r, (fun _ => True) r ∧ W 0 m r (upd H2 L (.lst []))) ∧ GTurn2 J (tG X.K c.calm ts g) (tT X.K c.calm t) (tI X.K c.calm (fzS c.calm) i1) (tG X.K c.calm ts1 g1) (tT X.K c.calm t1) (tE X.K c.calm f) (wipe σ vs) vs vs1 ((dCol fun acc H' => acc.length ≤ sizeLine ∧ ∃ ρ' h' xs, Nx (c.p X.K) ρ0 H0 ρ' h' H' ∧ DVs X.K ρ' H' acc xs ∧ Ed (c.p X.K) Wx ρ0 H0 (kk xs h') (RV (c.p X.K)) Q) L) (yCol L) W := by
    refine e.bindAt n0 (rel := fun ρ' Hb H' J ds => ItR (c.p X.K) (fz G Hb) ρ' H' J ds) fun ds h1 ρ1 H1 J n1 it e1 => ⟨n1.tb, fun H2 hE hT2 htk A hA => ?_⟩
    have n2 : Nx (c.p X.K) ρ1 H1 ρ1 h1 H2 := .extN n1.hr hE hT2 htk
    have n02 := (n0.trans n1).trans n2
    have zA : H0 A = none := n02.old hA hr0
    have zA1 : H A = none := (n1.trans n2).old hA s.hr
    have nA1 : A ∉ ρ1 := n2.hr.free hA
    obtain ⟨z0, _, gA⟩ := s.old zA1
    have n3 : Nx (c.p X.K) ρ1 H2 ρ1 h1 (upd H2 A (.lst [])) := .alloc n2.hr n2.tb hA
    obtain ⟨Gd, Y, supp, w, hsup, hgd, hy⟩ := it
    cases hL : gn2L g t i1 vs1 g1 t1 f (wipeS S vs) ds h1 with
    | none => simp only [hL] at e1; exact e1.elim
    | some bh =>
      obtain ⟨XS, hF⟩ := bh
      simp only [hL] at e1
      split at e1
      · rename_i hsz
        skip
        let Fin : Nat → Nat → Nat → Hp → Prop := fun i m r H' => m = ds.length - i ∧ i ≤ ds.length ∧ ∃ ρ' h' av pre xs, Nx (c.p X.K) ρ0 H0 ρ' h' H' ∧ Nx (c.p X.K) ρ H ρ' h' H' ∧ Lt X.K ρ1 H1 ρ' H' ∧ (∀ q ∈ supp, H' q.1 = some q.2 ∧ NoTbl q.2 ∧ q.1 ∉ ρ' ∧ q.1 ≠ A) ∧ A ∉ ρ' ∧ H' A = some (.lst av) ∧ DVs X.K ρ' H' av pre ∧
          gn2L g t i1 vs1 g1 t1 f (wipeS S vs) (ds.drop i) h' = some (xs, hF) ∧ XS = pre ++ xs ∧ r = xs.length
        refine ⟨Fin, ⟨ds.length, XS.length, trivial, by simp, Nat.zero_le _, ρ1, h1, [], [], XS, n02.trans n3, (n1.trans n2).trans n3, (n2.trans n3).lt n1.hr, fun q m => ?_, nA1, upd_same, .nil, by rw [List.drop_zero]; exact hL, rfl, rfl⟩, ?_⟩
        · obtain ⟨a1, a2, a3, _⟩ := hsup q m
          have a4 := n2.fr _ _ a1 a2 a3
          have ne := ne_of_none a4 hA
          exact ⟨by rw [upd_ne ne]; exact a4, a2, a3, ne⟩
        rintro i m r H' ⟨rfl, hi, ρ', h', av, pre, xs, n, nS, l, hs, na, ha, racc, fin, eX, rfl⟩
        have gd := hgd H' fun q m => (hs q m).1
        by_cases hlt : i < ds.length
        · refine .inr ⟨w.goes i H' hlt gd, fun r' H'' => Fin (i + 1) (ds.length - (i + 1)) r' H'', fun r' H'' z => ⟨_, by omega, z⟩, fun x H'' y => ?_⟩
          obtain ⟨n3, d, hd, dv⟩ := hy i ρ' h' H' x H'' l (fun q m => (hs q m).1) n.hr n.tb hlt (w.yields i H' x H'' hlt gd y)
          have ed : ds.drop i = d :: ds.drop (i + 1) := by
            obtain ⟨hlt, hv⟩ := List.getElem?_eq_some_iff.mp hd
            rw [List.drop_eq_getElem_cons hlt, hv]
          rw [ed] at fin
          simp only [gn2L] at fin
          have s4 := s.nx (nS.trans n3)
          have sup : ∀ {ρa h_a Ha}, Nx (c.p X.K) ρ' H' ρa h_a Ha → (∀ q ∈ supp, Ha q.1 = some q.2 ∧ NoTbl q.2 ∧ q.1 ∉ ρa ∧ q.1 ≠ A) ∧ A ∉ ρa ∧ Ha A = some (.lst av) ∧ DVs X.K ρa Ha av pre := fun {ρa h_a Ha} nn => by
            refine ⟨fun q m => ?_, nn.fresh ha na, nn.fr _ _ ha (by intro ps z; cases z) na, nn.dvs n.hr racc⟩
            obtain ⟨a1, a2, a3, a4⟩ := hs q m
            exact ⟨nn.fr _ _ a1 a2 a3, a2, nn.fresh a1 a3, a4⟩
          refine ⟨G, ρ', wipeS S vs, h', d, s4.wipe vs, dv, ?_⟩
          cases hg : g d (wipeS S vs) with
          | none => rw [hg] at fin; cases fin
          | some S1 =>
            rw [hg] at fin
            simp only at fin
            intro σ2 hl ho s5
            have own := own_old s zA1 ko hts hg ho
            refine ⟨wipe_same hl fun k hk => ho k fun z => hk (hts k z), G, ρ', S1, h', s5, ?_⟩
            cases ht : t S1 h' with
            | none => rw [ht] at fin; cases fin
            | some r =>
              rw [ht] at fin
              cases r with
              | exc cc h3 => cases fin
              | ok b h3 =>
                intro ρ3 H3 b' n5 eb
                cases eb
                have n35 := n3.trans n5
                cases b with
                | false =>
                  obtain ⟨q1, q2, q3, q4⟩ := sup n35
                  exact iteF ⟨rfl, hlt, ρ3, h3, av, pre, xs, n.trans n35, nS.trans n35, l.trans (n35.lt n.hr), q1, q2, q3, q4, fin, eX, rfl⟩
                | true =>
                  have s6 := s5.nx n5
                  refine iteT ⟨G, ρ3, S1, h3, s6, ?_⟩
                  simp only at fin
                  cases hf : i1 S1 h3 with
                  | none => rw [hf] at fin; cases fin
                  | some r =>
                    rw [hf] at fin
                    cases r with
                    | exc cc h4 => cases fin
                    | ok es h4 =>
                      intro ρ4 H4 J1 n6 it1
                      simp only at fin
                      have n36 := n35.trans n6
                      obtain ⟨q1, q2, q3, q4⟩ := sup n36
                      have s7 := s6.nx n6
                      cases hM : gnL g1 t1 f (wipeS S1 vs1) es h4 with
                      | none => rw [hM] at fin; cases fin
                      | some z =>
                        obtain ⟨ys, h5⟩ := z
                        rw [hM] at fin
                        simp only at fin
                        cases hN : gn2L g t i1 vs1 g1 t1 f (wipeS S vs) (ds.drop (i + 1)) h5 with
                        | none => rw [hN] at fin; cases fin
                        | some z =>
                          obtain ⟨zs, h6⟩ := z
                          rw [hN] at fin
                          simp only [Option.some.injEq, Prod.mk.injEq] at fin
                          obtain ⟨rfl, rfl⟩ := fin
                          obtain ⟨Gd1, Y1, supp1, w1, hsup1, hgd1, hy1⟩ := it1
                          have neA : ∀ q ∈ supp1, q.1 ≠ A := fun q m e => by
                            obtain ⟨a1, a2, a3, fa⟩ := hsup1 q m
                            rcases fa with fa | fa | fa
                            · rw [e, (sup n35).2.2.1] at fa; cases fa
                            · rw [e, q3] at a1
                              exact fa (by rw [← Option.some.inj a1]; exact trivial)
                            · rcases fa with kn | ⟨q2, hq2, e2⟩
                              · exact kn (by rw [e]; exact z0)
                              · exact gA q2 hq2 (e2.trans e)
                          let Fin1 : Nat → Nat → Nat → Hp → Prop := fun j k r H' => k = es.length - j ∧ j ≤ es.length ∧ ∃ ρ' h' av pre ys, Nx (c.p X.K) ρ0 H0 ρ' h' H' ∧ Nx (c.p X.K) ρ H ρ' h' H' ∧ Lt X.K ρ1 H1 ρ' H' ∧ Lt X.K ρ4 H4 ρ' H' ∧ Stt (c.p X.K) c.ρ0 c.H0 G ρ' S1 h' σ2 H' ∧ (∀ q ∈ supp, H' q.1 = some q.2 ∧ NoTbl q.2 ∧ q.1 ∉ ρ' ∧ q.1 ≠ A) ∧ (∀ q ∈ supp1, H' q.1 = some q.2 ∧ NoTbl q.2 ∧ q.1 ∉ ρ' ∧ q.1 ≠ A) ∧ A ∉ ρ' ∧ H' A = some (.lst av) ∧ DVs X.K ρ' H' av pre ∧
                            gnL g1 t1 f (wipeS S1 vs1) (es.drop j) h' = some (ys, h5) ∧ XS = pre ++ (ys ++ zs) ∧ r = (ys ++ zs).length
                          refine ⟨Fin1, ⟨es.length, by simp, Nat.zero_le _, ρ4, h4, av, pre, ys, n.trans n36, nS.trans n36, l.trans (n36.lt n.hr), .refl, s7, q1, fun q m => ?_, q2, q3, q4, by rw [List.drop_zero]; exact hM, eX, rfl⟩, ?_⟩
                          · obtain ⟨a1, a2, a3, _⟩ := hsup1 q m
                            exact ⟨a1, a2, a3, neA q m⟩
                          rintro j k r' H' ⟨rfl, hj, ρ', h', av, pre, ys, n, nS, l, l4, s, hs, hs1, na, ha, racc, fin, eX, rfl⟩
                          have gd1 := hgd1 H' fun q m => (hs1 q m).1
                          by_cases hlt1 : j < es.length
                          · refine .inr ⟨w1.goes j H' hlt1 gd1, fun r' H'' => Fin1 (j + 1) (es.length - (j + 1)) r' H'', fun r' H'' z => ⟨_, by omega, z⟩, fun x H'' y => ?_⟩
                            obtain ⟨n3, d, hd, dv⟩ := hy1 j ρ' h' H' x H'' l4 (fun q m => (hs1 q m).1) n.hr n.tb hlt1 (w1.yields j H' x H'' hlt1 gd1 y)
                            have ed : es.drop j = d :: es.drop (j + 1) := by
                              obtain ⟨hlt, hv⟩ := List.getElem?_eq_some_iff.mp hd
                              rw [List.drop_eq_getElem_cons hlt, hv]
                            rw [ed] at fin
                            simp only [gnL] at fin
                            have sup : ∀ {ρa h_a Ha}, Nx (c.p X.K) ρ' H' ρa h_a Ha → (∀ q ∈ supp, Ha q.1 = some q.2 ∧ NoTbl q.2 ∧ q.1 ∉ ρa ∧ q.1 ≠ A) ∧ (∀ q ∈ supp1, Ha q.1 = some q.2 ∧ NoTbl q.2 ∧ q.1 ∉ ρa ∧ q.1 ≠ A) ∧ A ∉ ρa ∧ Ha A = some (.lst av) ∧ DVs X.K ρa Ha av pre := fun {ρa h_a Ha} nn => by
                              refine ⟨fun q m => ?_, fun q m => ?_, nn.fresh ha na, nn.fr _ _ ha (by intro ps z; cases z) na, nn.dvs n.hr racc⟩
                              · obtain ⟨a1, a2, a3, a4⟩ := hs q m
                                exact ⟨nn.fr _ _ a1 a2 a3, a2, nn.fresh a1 a3, a4⟩
                              · obtain ⟨a1, a2, a3, a4⟩ := hs1 q m
                                exact ⟨nn.fr _ _ a1 a2 a3, a2, nn.fresh a1 a3, a4⟩
                            have s4 := s.nx n3
                            refine ⟨G, ρ', wipeS S1 vs1, h', d, s4.wipe vs1, dv, ?_⟩
                            cases hg : g1 d (wipeS S1 vs1) with
                            | none => rw [hg] at fin; cases fin
                            | some S2 =>
                              rw [hg] at fin
                              simp only at fin
                              intro σ3 hl ho s5
                              refine ⟨wipe_same hl fun k hk => ho k fun z => hk (hts1 k z), G, ρ', S2, h', s5, ?_⟩
                              cases ht : t1 S2 h' with
                              | none => rw [ht] at fin; cases fin
                              | some r =>
                                rw [ht] at fin
                                cases r with
                                | exc cc h3 => cases fin
                                | ok b h3 =>
                                  intro ρ3 H3 b' n5 eb
                                  cases eb
                                  have n35 := n3.trans n5
                                  cases b with
                                  | false =>
                                    obtain ⟨q0, q1, q2, q3, q4⟩ := sup n35
                                    exact iteF ⟨rfl, hlt1, ρ3, h3, av, pre, ys, n.trans n35, nS.trans n35, l.trans (n35.lt n.hr), l4.trans (n35.lt n.hr), s.nx n35, q0, q1, q2, q3, q4, fin, eX, rfl⟩
                                  | true =>
                                    refine iteT ⟨G, ρ3, S2, h3, s5.nx n5, ?_⟩
                                    simp only at fin
                                    cases hf : f S2 h3 with
                                    | none => rw [hf] at fin; cases fin
                                    | some r =>
                                      rw [hf] at fin
                                      cases r with
                                      | exc cc h4 => cases fin
                                      | ok r h4 =>
                                        intro ρ5 H5 v n6 rv
                                        have n36 := n35.trans n6
                                        obtain ⟨q0, q1, q2, q3, q4⟩ := sup n36
                                        cases r with
                                        | d vd =>
                                          simp only at fin
                                          cases hM1 : gnL g1 t1 f (wipeS S1 vs1) (es.drop (j + 1)) h4 with
                                          | none => rw [hM1] at fin; cases fin
                                          | some z =>
                                            obtain ⟨us, h6⟩ := z
                                            rw [hM1] at fin
                                            simp only [Option.some.injEq, Prod.mk.injEq] at fin
                                            obtain ⟨rfl, rfl⟩ := fin
                                            refine ⟨(us ++ zs).length, rfl, ?_⟩
                                            have eX2 : XS = (pre ++ [vd]) ++ (us ++ zs) := by rw [eX, List.append_assoc] <;> rfl
                                            have hz : av.length < sizeLine := by
                                              have h1 := congrArg List.length eX2
                                              rw [List.length_append, List.length_append, List.length_singleton] at h1
                                              rw [q4.length]
                                              omega
                                            refine ⟨av, q3, hz, rfl, hlt1, ρ5, h4, av ++ [v], pre ++ [vd], us, (n.trans n36).wr zA q3 trivial q2, (nS.trans n36).wr zA1 q3 trivial q2, (l.trans (n36.lt n.hr)).trans (upd_lt q3 trivial), (l4.trans (n36.lt n.hr)).trans (upd_lt q3 trivial), (s.nx n36).wrA q3 trivial z0 q2 gA own, fun q m => ?_, fun q m => ?_, q2, upd_same, ?_, hM1, eX2, rfl⟩
                                            · obtain ⟨a1, a2, a3, a4⟩ := q0 q m
                                              exact ⟨by rw [upd_ne a4]; exact a1, a2, a3, a4⟩
                                            · obtain ⟨a1, a2, a3, a4⟩ := q1 q m
                                              exact ⟨by rw [upd_ne a4]; exact a1, a2, a3, a4⟩
                                            · exact (upd_dvs q3 trivial q4).append (.cons (upd_dv q3 trivial rv) .nil)
                                        | _ => cases fin
                          · have e : j = es.length := by omega
                            subst e
                            rw [List.drop_length] at fin
                            simp only [gnL, Option.some.injEq, Prod.mk.injEq] at fin
                            obtain ⟨rfl, rfl⟩ := fin
                            exact .inl ⟨w1.stops H' gd1, rfl, hlt, ρ', _, av, pre, zs, n, nS, l, hs, na, ha, racc, hN, eX, rfl⟩
        · have e : i = ds.length := by omega
          subst e
          rw [List.drop_length] at fin
          simp only [gn2L, Option.some.injEq, Prod.mk.injEq] at fin
          obtain ⟨rfl, rfl⟩ := fin
          rw [List.append_nil] at eX
          subst eX
          exact .inl ⟨w.stops H' gd, av, ha, by rw [racc.length]; exact hsz, ρ', _, _, n, racc, e1⟩
      · exact e1.elim
  cases hi : i S h with
  | none => rw [hi] at e2; exact e2
  | some r =>
    rw [hi] at e2
    cases r with
    | ok ds h1 => exact e2
    | exc cc h1 => exact fun ρ' H' nn => hW _ _ _ (e2 ρ' H' nn)
end
section
variable {X : Cx} {c : Cc} {elt tg iter tg1 iter1 o : Expr} {pos gpos p apos : Pos} {ifs ifs1 : List Expr} {k : Nat} {cc P : Addr} {scope : Scope} {own : List (Str × Nat)} {ts ts1 vs1 : List Nat} {i i1 : IX} {g g1 : TGx} {t t1 : TX} {f : EX} {fz : FZ}
theorem ce_tupG2 (hr : Room k X.A) (hc : X.calm = true) (hN : X.N.Nodup) (S : GSc X.N X.env.scope scope own) (gt : GTab X c.T cc P) (hv : ∀ i ∈ vs1, i ∈ own.map (·.2)) (ko : KeepO g) (hi : CI X c fz tg iter i) (hg : GFam4 X scope fun G => CG G c.calm tg ts g) (ht : GFam4 X scope fun G => CTs G c.calm ifs t)
    (hi1 : GFam4 X scope fun G => CI G c.calm (fzS c.calm) tg1 iter1 i1) (hg1 : GFam4 X scope fun G => CG G c.calm tg1 ts1 g1) (ht1 : GFam4 X scope fun G => CTs G c.calm ifs1 t1) (he : GFam4 X scope fun G => CE G c.calm elt f)
    (hts : ∀ k, k ∈ ts → k ∈ own.map (·.2)) (hts1 : ∀ k, k ∈ ts1 → k ∈ vs1) (hs : ∀ v, genFold iter X.env v = pure v) (hs1 : ∀ env x, foldedSetIterable iter1 env x = pure x) (hgl : Gl X "tuple") (hm : X.mg "tuple" = none)
    (hst : starEach [g2c elt tg iter tg1 iter1 ifs ifs1 scope gpos] X.env = (false, eval (g2c elt tg iter tg1 iter1 ifs ifs1 scope gpos) X.env) :: starEach [] X.env := by rfl) :
    CE X c (.Call (.Name "tuple" p) [g2c elt tg iter tg1 iter1 ifs ifs1 scope gpos] [] pos) (gnK2 i (own.map (·.2)) g t i1 vs1 g1 t1 f kTup) := by
  refine ⟨fun pins s σ H Q I h => ?_⟩
  obtain ⟨G, ρ, S0, hh, st, ed⟩ := h
  refine Call_ (ld_blt I hgl hm boot_tuple (PyProof.Rows.callWith_type1 (PyProof.Rows.args_cons ?_ hst) hst rfl))
  refine gen_make2X hr hc hN S gt hi hg ht hi1 hg1 ht1 he hs1 hv hs I (tGx2_col ko hts hts1 st st.hr (.refl st.hr st.tb) (fun _ _ _ z => z) ed) fun a s' M => PyProof.Rows.args_nil (call_tupleX hr M (fun acc H' pa => pa.1) fun acc H' l pa hl => ?_)
  obtain ⟨_, ρ', h', xs, n, dv, e2⟩ := pa
  exact e2 ρ' _ (.ref l) (n.trans (.alloc n.hr n.tb hl)) (.tup (SqT.of upd_same) ((Nx.alloc n.hr n.tb hl).dvs n.hr dv))
theorem ce_joinG2 {fo : EX} (hr : Room k X.A) (hc : X.calm = true) (hN : X.N.Nodup) (S : GSc X.N X.env.scope scope own) (gt : GTab X c.T cc P) (hv : ∀ i ∈ vs1, i ∈ own.map (·.2)) (ko : KeepO g) (ho : CE X c o fo) (hi : CI X c fz tg iter i) (hg : GFam4 X scope fun G => CG G c.calm tg ts g) (ht : GFam4 X scope fun G => CTs G c.calm ifs t)
    (hi1 : GFam4 X scope fun G => CI G c.calm (fzS c.calm) tg1 iter1 i1) (hg1 : GFam4 X scope fun G => CG G c.calm tg1 ts1 g1) (ht1 : GFam4 X scope fun G => CTs G c.calm ifs1 t1) (he : GFam4 X scope fun G => CE G c.calm elt f)
    (hts : ∀ k, k ∈ ts → k ∈ own.map (·.2)) (hts1 : ∀ k, k ∈ ts1 → k ∈ vs1) (hs : ∀ v, genFold iter X.env v = pure v) (hs1 : ∀ env x, foldedSetIterable iter1 env x = pure x)
    (hst : starEach [g2c elt tg iter tg1 iter1 ifs ifs1 scope gpos] X.env = [(false, eval (g2c elt tg iter tg1 iter1 ifs ifs1 scope gpos) X.env)] := by rfl) (hbase : attributeBase o "join" X.env (eval o X.env) = eval o X.env := by rfl) (hline : (apos.endLine == pos.line) = true := by rfl) :
    CE X c (.Call (.Attribute o "join" apos) [g2c elt tg iter tg1 iter1 ifs ifs1 scope gpos] [] pos) (fun S h => andThen (fo S h) fun a h1 => match strOf a with
      | some z => gnK2 i (own.map (·.2)) g t i1 vs1 g1 t1 f (kJoin z) S h1
      | none => none) := by
  refine ⟨fun pins s σ H Q I h => ?_⟩
  obtain ⟨G, ρ, S0, hh, st, ed⟩ := h
  refine PySem.Call_method1 hbase hst hline (thn (ho.run pins s σ H (fun v H1 => ∃ z ρ1 h1, v = .str z ∧ Nx (c.p X.K) ρ H ρ1 h1 H1 ∧ Ed (c.p X.K) (fun cls d H' => c.W cls d σ H') ρ H (gnK2 i (own.map (·.2)) g t i1 vs1 g1 t1 f (kJoin z) S0 h1) (RV (c.p X.K)) Q) I ⟨G, ρ, S0, hh, st, ed.bind (rel := RV (c.p X.K)) fun a h1 ρ1 H1 x n1 rx e1 => ?_⟩) fun v s1 ⟨x, H1, I1, r1, z, ρ1, h1, ex, n1, e1⟩ => ?_)
  · cases hz : strOf a with
    | none => simp only [hz] at e1; exact e1.elim
    | some z => simp only [hz] at e1; exact ⟨z, ρ1, h1, str_of rx hz, n1, e1⟩
  · subst ex
    obtain ⟨tk, rfl⟩ := _root_.id r1
    refine ⟨"str", _, PySem.F.plainAttrs_str, PySem.F.slot_str_join, PySem.F.type_str_join, typeIs_str _ _ _, (fun _ e => nomatch e), Calls.callWith_builtin rfl (Calls.evalArgs_plain (Calls.spliced_cons ?_))⟩
    refine gen_make2X hr hc hN S gt hi hg ht hi1 hg1 ht1 he hs1 hv hs I1 (tGx2_col ko hts hts1 (st.nx n1) st.hr n1 (fun _ _ _ z => z) e1) fun a s' M => Calls.spliced_nil (call_joinX hr M fun acc H' pa => ?_)
    obtain ⟨_, ρ', h', xs, n, dv, e2⟩ := pa
    unfold kJoin at e2
    cases hy : strsD xs with
    | none => rw [hy] at e2; exact e2.elim
    | some ys =>
      rw [hy] at e2
      simp only at e2
      split at e2
      · rename_i hz
        exact ⟨ys, strs_of dv hy, hz, e2 ρ' H' _ n (.str _)⟩
      · exact e2.elim
end
end Sh
set_option Elab.async false
set_option linter.all false
set_option maxRecDepth 100000
set_option maxHeartbeats 4000000
namespace Sh
open PySem PySem.Spec PyProof.Rows L2
theorem room_gen4 {k : Nat} {A : Around} {env : Env} (r : Room (k + 1) A) : Room k ((in4 A).deeper env) :=
  ⟨r.hd, by have := r.dp; show A.depth + 1 + 3 * k + 5 < _; omega, by have := r.un; show A.units + 1 + 1 + 1 + 1 + 3 + 16 * k + 200 < _; omega⟩
/-! ### text * int; tuple * 0, tuple * 1 -/
theorem tuple_mul01 (l : Addr) (items : Array Value) (n : Nat) (dd : Option Addr) (sl : Array (Option Value)) (x : Int) (u : Tok) (hx : x = 0 ∨ x = 1) :
    Meets (Builtin.«tuple.__mul__» ⟨[.ref l, .int x u], []⟩) (fun _ R s => s.heap.get? l = some { cls := .type "tuple", dict := dd, data := .seq items n, slots := sl } ∧
      (items.isEmpty = true ∨ x = 1 → R (.ok (.ret (Value.ref l))) s) ∧ (x = 0 → R (.ok (.ret (Value.ref s.heap.objs.size))) { s with heap := s.heap.push { cls := Value.type "tuple", data := Data.seq #[] }, toks := s.toks })) :=
  .of_wp fun prog w A R s h => by
    obtain ⟨hp, g, d, tk, os⟩ := s
    obtain ⟨hl, h1, h0⟩ := h
    have f1 := AutoSeq1.idx_int
    have c0 : (decide (x < -(2 ^ 63)) || decide (x ≥ 2 ^ 63)) = false := by
      rw [decide_eq_false (by omega), decide_eq_false (by omega)] <;> rfl
    wp_walk using wpAny_loadPart' hl
    refine wpAny_ite_false (decide_eq_false (by rw [c0]; exact Bool.false_ne_true)) ?_
    wp_walk using wpAny_loadPart' hl
    by_cases c1 : (items.isEmpty || x == 1) = true
    · refine wpAny_ite_true (decide_eq_true c1) ?_
      wp_walk using wpAny_loadPart' hl
      refine ⟨_, rfl, h1 ?_⟩
      rcases Bool.or_eq_true_iff.mp c1 with z | z
      · exact .inl z
      · exact .inr (beq_iff_eq.mp z)
    · refine wpAny_ite_false (decide_eq_false c1) ?_
      wp_walk using wpAny_loadPart' hl
      have x0 : x = 0 := by
        rcases hx with z | z
        · exact z
        · exact absurd (by rw [z]; simp) c1
      refine wpAny_ite_true (decide_eq_true (by rw [x0] <;> rfl)) ?_
      wp_walk using wpAny_loadPart' hl
      exact ⟨_, rfl, h0 x0⟩
def rRep01 (K : PySem.W.Frag) : R2 := fun x y H Q => ∃ l k xs, x = .ref l ∧ y = .int k ∧ SqT K H l xs ∧ ((k = 1 ∧ Q (.ref l) H) ∨ (k = 0 ∧ (xs = [] → Q (.ref l) H) ∧ ∀ p, H p = none → Q (.ref p) (upd H p (.tup []))))
def rMulS : R2 := fun x y H Q => ∃ z k, x = .str z ∧ y = .int k ∧ 0 ≤ k ∧ k ≤ 1000 ∧ z.length ≤ 1000 ∧ Q (.str (Txt.mul z k)) H
section
variable {X : Cx} {c : Cc}
theorem op_rep01 : OpR X (binaryOp .Mult) (rRep01 X.K) := by
  intro pins s σ H x y v u Q I rx ry h
  obtain ⟨l, k, xs, rfl, rfl, hT, q⟩ := h
  cases rx
  obtain ⟨t, rfl⟩ := ry
  obtain ⟨its, r, ⟨⟨cls, dd, data, sl⟩, ho, hc, n, hd⟩, hs⟩ := I.tuple hT
  simp only at hc hd
  subst hc hd
  have hx : k = 0 ∨ k = 1 := by rcases q with q | q; exact .inr q.1; exact .inl q.1
  refine wpAny_binaryOp_repeat_ref (T := "tuple") (U := "int") (by decide) ⟨_, ho, rfl⟩ (fun s' => typeIs_int s' k t) noFill_tuple_mul PySem.F.fills_int_mul PySem.F.slot_int_rmul repeat_tuple PySem.F.slot_int_index.lookup
    (call_meets PySem.F.slot_int_rmul (typeIs_int s k t) PySem.F.entry_int_rmul (PySem.F.args_int_rmul_2 _ _) (int_rmul_tuple k t l its.toArray n dd sl)
      ⟨ho, rfl, ⟨_, ho, rfl⟩, call_meets PySem.F.slot_tuple_mul ⟨_, ho, rfl⟩ PySem.F.entry_tuple_mul (PySem.F.args_tuple_mul_2 _ _) (tuple_mul01 l its.toArray n dd sl k t hx) ⟨ho, fun hh => ?_, fun h0 => ?_⟩⟩)
  · refine ⟨.ref l, H, I, rfl, ?_⟩
    rcases q with q | q
    · exact q.2
    · refine q.2.1 ?_
      rcases hh with z | z
      · have : its = [] := by simpa using z
        rw [this] at r
        cases r; rfl
      · omega
  · rcases q with q | q
    · omega
    · exact ⟨.ref s.heap.objs.size, _, I.laid (t' := s.toks) (o := .tup []) (fun b ob q => Heap.get?_push_of_some _ q) (Nat.le_refl _) ⟨Nat.zero_le _, [], .nil, IsTup.new _ _⟩, rfl, q.2.2 _ (I.hok.fresh (Nat.le_refl _))⟩
theorem op_mulS : OpR X (binaryOp .Mult) rMulS := by
  intro pins s σ H x y v u Q I rx ry h
  obtain ⟨z, k, rfl, rfl, h1, h2, hz, q⟩ := h
  obtain ⟨t, rfl⟩ := rx
  obtain ⟨tu, rfl⟩ := ry
  have sm : z.length * k.toNat ≤ 1000000 := by
    have : z.length * k.toNat ≤ 1000 * 1000 := Nat.mul_le_mul hz (by omega)
    omega
  refine SB.mul ⟨by rw [decide_eq_false (by omega), decide_eq_false (by omega)] <;> rfl, fun h3 _ h5 => ?_, fun h3 _ => ?_⟩ fun t' kk => ⟨.str _, H, I.tok kk, ⟨t', rfl⟩, q⟩
  · have e : (z.length : Int) * k ≤ 2 ^ 63 - 1 := by
      have e1 : ((z.length * k.toNat : Nat) : Int) = (z.length : Int) * k := by
        rw [Int.natCast_mul, Int.toNat_of_nonneg h1]
      omega
    have := Int.le_ediv_of_mul_le (by omega : (0 : Int) < k) e
    omega
  · unfold Builtin.Str.tooLong
    rw [sizeLine_eq]
    exact decide_eq_false (by omega)
def rMulB (K : PySem.W.Frag) : R2 := fun x y H Q => rMulA K x y H Q ∨ rRep01 K x y H Q ∨ rMulS x y H Q
theorem op_mulB : OpR X (binaryOp .Mult) (rMulB X.K) := by
  intro pins s σ H x y v u Q I rx ry h
  rcases h with h | h | h
  · exact op_mulA pins s σ H x y v u Q I rx ry h
  · exact op_rep01 pins s σ H x y v u Q I rx ry h
  · exact op_mulS pins s σ H x y v u Q I rx ry h
noncomputable def gMulB : P2f := fun a b h => match a, b with
  | .d (.str z), .d (.int k) => if 0 ≤ k ∧ k ≤ 1000 ∧ z.length ≤ 1000 then some (.d (.str (Txt.mul z k))) else none
  | .d (.tup xs), .d (.int k) => if k = 1 then some (.d (.tup xs)) else if k = 0 then some (.d (.tup [])) else gMul a b h
  | a, b => gMul a b h
theorem p2_mulB : P2 X c (rMulB X.K) gMulB := by
  intro ρ h H Ha Hb x y a b Q hr tb qa qb e
  unfold gMulB at e
  split at e
  · rename_i z k
    split at e
    · rename_i hk
      cases qa with
      | str =>
        cases qb with
        | int => exact .inr (.inr ⟨z, k, rfl, rfl, hk.1, hk.2.1, hk.2.2, fin_d hr tb e (.str _)⟩)
    · exact e.elim
  · rename_i xs k
    split at e
    · rename_i hk
      subst hk
      obtain ⟨l, vs, rfl, hT, dv⟩ := tup_of qa rfl
      cases qb with
      | int => exact .inr (.inl ⟨l, 1, vs, rfl, rfl, hT, .inl ⟨rfl, fin_d hr tb e (.tup hT dv)⟩⟩)
    · split at e
      · rename_i hk
        subst hk
        obtain ⟨l, vs, rfl, hT, dv⟩ := tup_of qa rfl
        cases qb with
        | int =>
          refine .inr (.inl ⟨l, 0, vs, rfl, rfl, hT, .inr ⟨rfl, fun hn => fin_d hr tb e (.tup (by rw [← hn]; exact hT) .nil), fun p hp => new_tup hr tb .nil hp e⟩⟩)
      · exact .inl (p2_mul ρ h H Ha Hb x y _ _ Q hr tb qa qb e)
  · exact .inl (p2_mul ρ h H Ha Hb x y _ _ Q hr tb qa qb e)
end
end Sh
set_option Elab.async false
set_option linter.all false
set_option maxRecDepth 100000
set_option maxHeartbeats 4000000
namespace Sh
open PySem PySem.Spec PyProof.Rows L2
def xJoinG (fo : EX) (kf : Str → EX) : EX := fun S h => andThen (fo S h) fun a h1 => match strOf a with
  | some z => kf z S h1
  | none => none
section
variable {X : Cx} {c : Cc} {elt tg iter tg1 iter1 o : Expr} {pos gpos p apos : Pos} {ifs ifs1 : List Expr} {k : Nat} {cc P : Addr} {scope : Scope} {own : List (Str × Nat)} {ts ts1 vs1 : List Nat} {i i1 : IX} {g g1 : TGx} {t t1 : TX} {f : EX} {fz : FZ}
theorem ce_joinGx {fo : EX} (hr : Room k X.A) (hc : X.calm = true) (hN : X.N.Nodup) (S : GSc X.N X.env.scope scope own) (gt : GTab X c.T cc P) (ho : CE X c o fo) (hi : CI X c fz tg iter i) (hg : GFam4 X scope fun G => CG G c.calm tg ts g) (ht : GFam4 X scope fun G => CTs G c.calm ifs t) (he : GFam4 X scope fun G => CE G c.calm elt f)
    (hts : ∀ k, k ∈ ts → k ∈ own.map (·.2)) (hs : ∀ v, genFold iter X.env v = pure v)
    (hst : starEach [.GeneratorExp elt [⟨tg, iter, ifs, 0⟩] scope gpos] X.env = [(false, eval (.GeneratorExp elt [⟨tg, iter, ifs, 0⟩] scope gpos) X.env)] := by rfl) (hbase : attributeBase o "join" X.env (eval o X.env) = eval o X.env := by rfl) (hline : (apos.endLine == pos.line) = true := by rfl) :
    CE X c (.Call (.Attribute o "join" apos) [.GeneratorExp elt [⟨tg, iter, ifs, 0⟩] scope gpos] [] pos) (xJoinG fo fun z => gnK i (own.map (·.2)) g t f (kJoin z)) :=
  ce_joinG hr hc hN S gt ho hi hg ht he hts hs hst hbase hline
theorem ce_joinG2x {fo : EX} (hr : Room k X.A) (hc : X.calm = true) (hN : X.N.Nodup) (S : GSc X.N X.env.scope scope own) (gt : GTab X c.T cc P) (hv : ∀ i ∈ vs1, i ∈ own.map (·.2)) (ko : KeepO g) (ho : CE X c o fo) (hi : CI X c fz tg iter i) (hg : GFam4 X scope fun G => CG G c.calm tg ts g) (ht : GFam4 X scope fun G => CTs G c.calm ifs t)
    (hi1 : GFam4 X scope fun G => CI G c.calm (fzS c.calm) tg1 iter1 i1) (hg1 : GFam4 X scope fun G => CG G c.calm tg1 ts1 g1) (ht1 : GFam4 X scope fun G => CTs G c.calm ifs1 t1) (he : GFam4 X scope fun G => CE G c.calm elt f)
    (hts : ∀ k, k ∈ ts → k ∈ own.map (·.2)) (hts1 : ∀ k, k ∈ ts1 → k ∈ vs1) (hs : ∀ v, genFold iter X.env v = pure v) (hs1 : ∀ env x, foldedSetIterable iter1 env x = pure x)
    (hst : starEach [g2c elt tg iter tg1 iter1 ifs ifs1 scope gpos] X.env = [(false, eval (g2c elt tg iter tg1 iter1 ifs ifs1 scope gpos) X.env)] := by rfl) (hbase : attributeBase o "join" X.env (eval o X.env) = eval o X.env := by rfl) (hline : (apos.endLine == pos.line) = true := by rfl) :
    CE X c (.Call (.Attribute o "join" apos) [g2c elt tg iter tg1 iter1 ifs ifs1 scope gpos] [] pos) (xJoinG fo fun z => gnK2 i (own.map (·.2)) g t i1 vs1 g1 t1 f (kJoin z)) :=
  ce_joinG2 hr hc hN S gt hv ko ho hi hg ht hi1 hg1 ht1 he hts hts1 hs hs1 hst hbase hline
end
end Sh
set_option Elab.async false
set_option linter.all false
set_option maxRecDepth 100000
namespace Sh
open PySem PySem.Spec PyProof.Rows L2
/-! ### what was made on the way and is held no more -/
mutual
def dOld (n : Nat) : D → Bool
  | .tup xs => dsOld n xs
  | .ref j => decide (j < n)
  | _ => true
def dsOld (n : Nat) : List D → Bool
  | [] => true
  | x :: xs => dOld n x && dsOld n xs
end
def oOld (n : Nat) : O → Bool
  | .lst xs => dsOld n xs
  | .dct kd => dsOld n (kd.map (·.2))
  | .ins _ fs => dsOld n (fs.map (·.2))
def hsOld (n : Nat) : Hs → Bool
  | [] => true
  | o :: h => oOld n o && hsOld n h
section
variable {K : PySem.W.Frag} {ρ ρ' : List Addr} {H : Hp}
mutual
theorem DV.less (hp : ρ <+: ρ') : ∀ {v : V} {d : D}, DV K ρ' H v d → dOld ρ.length d = true → DV K ρ H v d
  | _, _, .non, _ => .non
  | _, _, .bl b, _ => .bl b
  | _, _, .int i, _ => .int i
  | _, _, .str x, _ => .str x
  | _, _, .ty n, _ => .ty n
  | _, _, .tup h r, e => .tup h (DVs.less hp r (by unfold dOld at e; exact e))
  | _, _, .ref (j := j) h, e => .ref (by
    have hj : j < ρ.length := by unfold dOld at e; exact of_decide_eq_true e
    obtain ⟨t, rfl⟩ := hp
    rwa [List.getElem?_append_left hj] at h)
theorem DVs.less (hp : ρ <+: ρ') : ∀ {vs : List V} {ds : List D}, DVs K ρ' H vs ds → dsOld ρ.length ds = true → DVs K ρ H vs ds
  | _, _, .nil, _ => .nil
  | _, _, .cons h r, e => by
    unfold dsOld at e
    obtain ⟨e1, e2⟩ := ba2 e
    exact .cons (DV.less hp h e1) (DVs.less hp r e2)
end
end
theorem OM.less {p : Pm} {ρ ρ' : List Addr} {H : Hp} (hp : ρ <+: ρ') {a : Addr} {o : O} (m : OM p ρ' H a o) (e : oOld ρ.length o = true) : OM p ρ H a o := by
  cases o with
  | lst ds => obtain ⟨vs, e1, r⟩ := m; exact ⟨vs, e1, r.less hp e⟩
  | dct kd => obtain ⟨ks, e1, r1, r2⟩ := m; exact ⟨ks, e1, r1, r2.less hp e⟩
  | ins c fs => obtain ⟨dx, gs, e1, r1, r2⟩ := m; exact ⟨dx, gs, e1, r1, r2.less hp e⟩
theorem hsOld_get {n : Nat} : ∀ {h : Hs} {j : Nat} {o : O}, hsOld n h = true → h[j]? = some o → oOld n o = true
  | [], _, _, _, e => by simp at e
  | o :: h, 0, _, e, q => by
    unfold hsOld at e
    simp only [List.getElem?_cons_zero, Option.some.injEq] at q
    rw [← q]; exact (ba2 e).1
  | o :: h, j + 1, _, e, q => by
    unfold hsOld at e
    exact hsOld_get (ba2 e).2 (by simpa using q)
def xGc (f : EX) : EX := fun S h => andThen (f S h) fun r h1 => match r with
  | .d x => if dOld h.length x && hsOld h.length (h1.take h.length) then some (.ok (.d x) (h1.take h.length)) else none
  | _ => none
theorem ce_gc {X : Cx} {c : Cc} {e : Expr} {f : EX} (he : CE X c e f) : CE X c e (xGc f) := by
  refine pe_weak he fun σ H Q q => ?_
  obtain ⟨G, ρ, S, h, s, e⟩ := q
  refine ⟨G, ρ, S, h, s, e.bind (rel := RV (c.p X.K)) fun r h1 ρ1 H1 v n1 rv e1 => ?_⟩
  cases r with
  | d x =>
    simp only at e1
    by_cases hc : (dOld h.length x && hsOld h.length (h1.take h.length)) = true
    · rw [if_pos hc] at e1
      obtain ⟨c1, c2⟩ := ba2 hc
      have el : ρ.length = h.length := s.hr.len
      have le : h.length ≤ h1.length := by rw [← el, ← n1.hr.len]; exact n1.pre.length_le
      rw [← el] at c1 c2
      refine e1 ρ H1 v ⟨List.prefix_refl _, ⟨by rw [List.length_take, Nat.min_eq_left le, el], s.hr.nd, fun j a o hj ho => ?_⟩, n1.fr, fun _ m => .inl m, n1.tk, n1.tb⟩ (DV.less n1.pre rv c1)
      have hjl : j < ρ.length := (List.getElem?_eq_some_iff.mp hj).1
      rw [List.getElem?_take, if_pos (by omega)] at ho
      exact (n1.hr.ob j a o (pre_get n1.pre hj) ho).less n1.pre (hsOld_get c2 (j := j) (by rw [List.getElem?_take, if_pos (by omega)]; exact ho))
    · rw [if_neg hc] at e1; exact e1.elim
  | _ => exact e1.elim
end Sh
set_option Elab.async false
set_option linter.all false
set_option maxRecDepth 100000
namespace Sh
open PySem PySem.Spec PyProof.Rows L2
/-! ### in, not in of nested data -/
theorem hu80 {k : Nat} {A : Around} (r : Room k A) : A.units + 80 < cLine := by have := r.un; show A.units + 80 < _; omega
section
variable {X : Cx} {c : Cc}
def rInX (K : PySem.W.Frag) (neg : Bool) : R2 := fun x y H Q => ∃ d xs, Dp K H x d ∧ (Dp K H y (.tuple xs) ∨ Dp K H y (.list xs)) ∧ SeqAt.shaped d = true ∧ PyData.canLayAll0 xs = true ∧ Q (.bl (if neg then !(xs.any fun z => PyData.eqv z d) else xs.any fun z => PyData.eqv z d)) H
theorem op_inX (hu : X.A.units + 80 < cLine) : OpR X (compareOp .In) (rInX X.K false) := by
  intro pins s σ H x y v u Q I rx ry h
  obtain ⟨d, xs, hd, he, sd, sx, q⟩ := h
  obtain ⟨as, r1⟩ := Dp.reads I d x v hd rx
  have dd := SeqAt.depth_of_shaped sd
  have mm : min (PyData.depthAll xs) d.depth ≤ d.depth := Nat.min_le_right _ _
  rcases he with he | he
  · obtain ⟨bs, r2⟩ := Dp.reads I _ y u he ry
    exact SeqAt.in_tuple_reads r2 r1 sx (SeqAt.canLay_of_shaped sd) (by omega) ⟨.bl _, H, I, rfl, q⟩
  · obtain ⟨bs, r2⟩ := Dp.reads I _ y u he ry
    exact SeqAt.in_list_reads r2 r1 sx (SeqAt.canLay_of_shaped sd) (by omega) ⟨.bl _, H, I, rfl, q⟩
theorem op_notInX (hu : X.A.units + 80 < cLine) : OpR X (compareOp .NotIn) (rInX X.K true) := by
  intro pins s σ H x y v u Q I rx ry h
  obtain ⟨d, xs, hd, he, sd, sx, q⟩ := h
  obtain ⟨as, r1⟩ := Dp.reads I d x v hd rx
  have dd := SeqAt.depth_of_shaped sd
  have mm : min (PyData.depthAll xs) d.depth ≤ d.depth := Nat.min_le_right _ _
  rcases he with he | he
  · obtain ⟨bs, r2⟩ := Dp.reads I _ y u he ry
    exact SeqAt.notIn_tuple_reads r2 r1 sx (SeqAt.canLay_of_shaped sd) (by omega) ⟨.bl _, H, I, rfl, q⟩
  · obtain ⟨bs, r2⟩ := Dp.reads I _ y u he ry
    exact SeqAt.notIn_list_reads r2 r1 sx (SeqAt.canLay_of_shaped sd) (by omega) ⟨.bl _, H, I, rfl, q⟩
def inX (a b : R) (h : Hs) : Option Bool := match pyR a h, pyR b h with
  | some d, some (.tuple xs) => if SeqAt.shaped d = true ∧ PyData.canLayAll0 xs = true then some (xs.any fun z => PyData.eqv z d) else none
  | some d, some (.list xs) => if SeqAt.shaped d = true ∧ PyData.canLayAll0 xs = true then some (xs.any fun z => PyData.eqv z d) else none
  | _, _ => none
theorem inX_of {p : Pm} {ρ : List Addr} {h : Hs} {Ha Hb H : Hp} {x y : V} {a b : R} {k : Bool} (hr : HR p ρ h H) (qa : RV p ρ Ha H x a) (qb : RV p ρ Hb H y b) (e : inX a b h = some k) :
    ∃ d xs, Dp p.K H x d ∧ (Dp p.K H y (.tuple xs) ∨ Dp p.K H y (.list xs)) ∧ SeqAt.shaped d = true ∧ PyData.canLayAll0 xs = true ∧ k = (xs.any fun z => PyData.eqv z d) := by
  unfold inX at e
  cases ea : pyR a h with
  | none => rw [ea] at e; cases e
  | some d =>
    cases eb : pyR b h with
    | none => rw [ea, eb] at e; cases e
    | some z =>
      rw [ea, eb] at e
      have h1 := pyR_of hr qa ea
      have h2 := pyR_of hr qb eb
      cases z with
      | tuple xs =>
        simp only at e
        split at e
        · rename_i hc
          cases e
          exact ⟨d, xs, h1, .inl h2, hc.1, hc.2, rfl⟩
        · cases e
      | list xs =>
        simp only at e
        split at e
        · rename_i hc
          cases e
          exact ⟨d, xs, h1, .inr h2, hc.1, hc.2, rfl⟩
        · cases e
      | _ => cases e
def rInB (K : PySem.W.Frag) : R2 := fun x y H Q => rInA K x y H Q ∨ rInX K false x y H Q
def rNotInB (K : PySem.W.Frag) : R2 := fun x y H Q => rNotInA K x y H Q ∨ rInX K true x y H Q
theorem op_inB (hu : X.A.units + 80 < cLine) : OpR X (compareOp .In) (rInB X.K) := (op_inA (by omega)).or (op_inX hu)
theorem op_notInB (hu : X.A.units + 80 < cLine) : OpR X (compareOp .NotIn) (rNotInB X.K) := (op_notInA (by omega)).or (op_notInX hu)
def gInB : P2f := fun a b h => match inR a b h with
  | some _ => gIn a b h
  | none => (inX a b h).map fun k => .d (.bl k)
def gNotInB : P2f := fun a b h => match inR a b h with
  | some _ => gNotIn a b h
  | none => (inX a b h).map fun k => .d (.bl (!k))
theorem p2_inB : P2 X c (rInB X.K) gInB := by
  intro ρ h H Ha Hb x y a b Q hr tb qa qb e
  unfold gInB at e
  cases k : inR a b h with
  | some k' => rw [k] at e; exact .inl (p2_in ρ h H Ha Hb x y a b Q hr tb qa qb e)
  | none =>
    rw [k] at e
    cases k2 : inX a b h with
    | none => rw [k2] at e; exact e.elim
    | some k' =>
      rw [k2] at e
      have q := fin_d hr tb e (.bl k')
      obtain ⟨d, xs, h1, h2, h3, h4, rfl⟩ := inX_of hr qa qb k2
      exact .inr ⟨d, xs, h1, h2, h3, h4, q⟩
theorem p2_notInB : P2 X c (rNotInB X.K) gNotInB := by
  intro ρ h H Ha Hb x y a b Q hr tb qa qb e
  unfold gNotInB at e
  cases k : inR a b h with
  | some k' => rw [k] at e; exact .inl (p2_notIn ρ h H Ha Hb x y a b Q hr tb qa qb e)
  | none =>
    rw [k] at e
    cases k2 : inX a b h with
    | none => rw [k2] at e; exact e.elim
    | some k' =>
      rw [k2] at e
      have q := fin_d hr tb e (.bl (!k'))
      obtain ⟨d, xs, h1, h2, h3, h4, rfl⟩ := inX_of hr qa qb k2
      exact .inr ⟨d, xs, h1, h2, h3, h4, q⟩
end
end Sh
set_option Elab.async false
set_option linter.all false
set_option maxRecDepth 100000
set_option maxHeartbeats 4000000
namespace Sk25
open PySem PySem.Spec PyProof.Rows L2 Sh
inductive Fn where
  | f_is_int
  | f_is_number
  | f_is_name
  | f_is_there
  | f_expression_parts
  | f_condition_parts
  | f_is_expression
  | f_is_condition
  | f_is_type
  | f_divisions
  | f_ends
  | f_statements_in
  | f_block_fits
  | f_head_of
  | f_head_fits
  | f_call_fits
  | f_statement_fits
  | f_names_fit
  | f_function_fits
  | f_is_whole
  | f_whole
  | f_tight
  | f_expression
  | f_held
  | f_condition
  | f_type_text
  | f_call_text
  | f_statement
  | f_block_rows
  | f_head
  | f_write
  | f_law_cell
  | f_law_stream
  | f_law_draw
  | f_law_read
  | f_law_told
  | f_law_f
  | f_law_chain
  | f_law_sized
  | f_law
  deriving DecidableEq, Inhabited
def nmOf : Fn → Str
  | .f_is_int => "is_int"
  | .f_is_number => "is_number"
  | .f_is_name => "is_name"
  | .f_is_there => "is_there"
  | .f_expression_parts => "expression_parts"
  | .f_condition_parts => "condition_parts"
  | .f_is_expression => "is_expression"
  | .f_is_condition => "is_condition"
  | .f_is_type => "is_type"
  | .f_divisions => "divisions"
  | .f_ends => "ends"
  | .f_statements_in => "statements_in"
  | .f_block_fits => "block_fits"
  | .f_head_of => "head_of"
  | .f_head_fits => "head_fits"
  | .f_call_fits => "call_fits"
  | .f_statement_fits => "statement_fits"
  | .f_names_fit => "names_fit"
  | .f_function_fits => "function_fits"
  | .f_is_whole => "is_whole"
  | .f_whole => "whole"
  | .f_tight => "tight"
  | .f_expression => "expression"
  | .f_held => "held"
  | .f_condition => "condition"
  | .f_type_text => "type_text"
  | .f_call_text => "call_text"
  | .f_statement => "statement"
  | .f_block_rows => "block_rows"
  | .f_head => "head"
  | .f_write => "write"
  | .f_law_cell => "_law_cell"
  | .f_law_stream => "_law_stream"
  | .f_law_draw => "_law_draw"
  | .f_law_read => "_law_read"
  | .f_law_told => "_law_told"
  | .f_law_f => "_law_f"
  | .f_law_chain => "_law_chain"
  | .f_law_sized => "_law_sized"
  | .f_law => "law"
def ixOf : Fn → Nat
  | .f_is_int => 10
  | .f_is_number => 11
  | .f_is_name => 12
  | .f_is_there => 13
  | .f_expression_parts => 14
  | .f_condition_parts => 15
  | .f_is_expression => 16
  | .f_is_condition => 17
  | .f_is_type => 18
  | .f_divisions => 19
  | .f_ends => 20
  | .f_statements_in => 21
  | .f_block_fits => 23
  | .f_head_of => 24
  | .f_head_fits => 25
  | .f_call_fits => 26
  | .f_statement_fits => 27
  | .f_names_fit => 28
  | .f_function_fits => 29
  | .f_is_whole => 30
  | .f_whole => 31
  | .f_tight => 33
  | .f_expression => 34
  | .f_held => 35
  | .f_condition => 36
  | .f_type_text => 37
  | .f_call_text => 38
  | .f_statement => 39
  | .f_block_rows => 40
  | .f_head => 41
  | .f_write => 42
  | .f_law_cell => 44
  | .f_law_stream => 45
  | .f_law_draw => 46
  | .f_law_read => 47
  | .f_law_told => 48
  | .f_law_f => 49
  | .f_law_chain => 50
  | .f_law_sized => 51
  | .f_law => 52
def psOf : Fn → List Str
  | .f_is_int => ["k"]
  | .f_is_number => ["k"]
  | .f_is_name => ["x"]
  | .f_is_there => ["x", "names"]
  | .f_expression_parts => ["e", "names"]
  | .f_condition_parts => ["c", "names"]
  | .f_is_expression => ["e", "names"]
  | .f_is_condition => ["c", "names"]
  | .f_is_type => ["t", "names"]
  | .f_divisions => ["part"]
  | .f_ends => ["block"]
  | .f_statements_in => ["block"]
  | .f_block_fits => ["block", "deep"]
  | .f_head_of => ["f"]
  | .f_head_fits => ["f"]
  | .f_call_fits => ["heads", "f", "s", "there"]
  | .f_statement_fits => ["heads", "f", "s", "there", "variables"]
  | .f_names_fit => ["heads", "f", "block", "there", "variables"]
  | .f_function_fits => ["heads", "f"]
  | .f_is_whole => ["program"]
  | .f_whole => ["program"]
  | .f_tight => ["e"]
  | .f_expression => ["e"]
  | .f_held => ["c", "kinds"]
  | .f_condition => ["c"]
  | .f_type_text => ["t"]
  | .f_call_text => ["f", "args", "rows"]
  | .f_statement => ["s", "blank"]
  | .f_block_rows => ["block", "blank"]
  | .f_head => ["f"]
  | .f_write => ["program"]
  | .f_law_cell => ["script", "k"]
  | .f_law_stream => ["script", "k"]
  | .f_law_draw => ["box", "many"]
  | .f_law_read => ["told"]
  | .f_law_told => ["call"]
  | .f_law_f => ["params", "rows", "body"]
  | .f_law_chain => ["many", "more"]
  | .f_law_sized => ["pick", "by"]
  | .f_law => ["script"]
def locOf : Fn → List Str
  | .f_is_int => ["k"]
  | .f_is_number => ["k"]
  | .f_is_name => ["x", "sign"]
  | .f_is_there => ["x", "names"]
  | .f_expression_parts => ["e", "names", "left", "right", "inner"]
  | .f_condition_parts => ["c", "names", "inner", "left", "right"]
  | .f_is_expression => ["e", "names"]
  | .f_is_condition => ["c", "names"]
  | .f_is_type => ["t", "names"]
  | .f_divisions => ["part", "here", "inner"]
  | .f_ends => ["block", "last"]
  | .f_statements_in => ["block", "found", "s"]
  | .f_block_fits => ["block", "deep", "number", "s"]
  | .f_head_of => ["f", "names", "p", "made", "r", "k"]
  | .f_head_fits => ["f"]
  | .f_call_fits => ["heads", "f", "s", "there", "g", "e", "own", "r", "h"]
  | .f_statement_fits => ["heads", "f", "s", "there", "variables", "parameters", "p", "rows", "r", "kind"]
  | .f_names_fit => ["heads", "f", "block", "there", "variables", "s", "inner", "b"]
  | .f_function_fits => ["heads", "f", "all_of", "forks", "s", "chosen", "parameters", "p", "made", "r"]
  | .f_is_whole => ["program", "f", "heads"]
  | .f_whole => ["program", "f"]
  | .f_tight => ["e", "text"]
  | .f_expression => ["e", "kind", "right"]
  | .f_held => ["c", "kinds", "text"]
  | .f_condition => ["c", "kind"]
  | .f_type_text => ["t", "text"]
  | .f_call_text => ["f", "args", "rows", "inner", "e"]
  | .f_statement => ["s", "blank", "kind", "rows", "head", "text"]
  | .f_block_rows => ["block", "blank", "s", "row"]
  | .f_head => ["f", "text", "p", "rows", "r"]
  | .f_write => ["program", "f", "row"]
  | .f_law_cell => ["script", "k"]
  | .f_law_stream => ["script", "k"]
  | .f_law_draw => ["box", "many", "told"]
  | .f_law_read => ["told", "part"]
  | .f_law_told => ["call", "e"]
  | .f_law_f => ["params", "rows", "body", "yes"]
  | .f_law_chain => ["many", "more", "e", "k"]
  | .f_law_sized => ["pick", "by", "yes", "a", "say", "row", "k", "e", "c", "steps", "b", "kinds", "handed", "rows", "other", "both"]
  | .f_law => ["script", "box", "again", "pick", "by", "program", "told"]
def k_WORDS : D := (.tup [(.str "let"), (.str "set"), (.str "call"), (.str "get"), (.str "put"), (.str "if"), (.str "else"), (.str "while"), (.str "keeps"), (.str "falls"), (.str "say"), (.str "return"), (.str "and"), (.str "or"), (.str "not"), (.str "yes"), (.str "fun"), (.str "rows"), (.str "to"), (.str "of"), (.str "mod"), (.str "v")])
def k_SIGNS : D := (.str "abcdefghijklmnopqrstuvwxyz0123456789_")
def k_MOST : D := (.int (50))
def t_SIZES : KTb := [("let", (.int (4))), ("set", (.int (3))), ("call", (.int (6))), ("get", (.int (5))), ("put", (.int (4))), ("if", (.int (4))), ("while", (.int (5))), ("say", (.int (2))), ("return", (.int (2)))]

def top (i : Nat) : Stmt := PySem.Challenge.pw_truetotype_k25_bounds.main.body.getD i (.Pass ⟨0, 0, 0, 0⟩)
abbrev stOf (f : Fn) : Stmt := top (ixOf f)
def wN : Nat := 1000000
def nmF : Str → Option Str := fun cn => if cn = "BadProgram" then some "program" else none
noncomputable def b_f_is_int (cs : Fn → Fd) : SX :=
  (sRet (op2 gIs (opN (g1 gTy) (aCons (xVar 0) aNil)) (xC (.ty "int"))))
noncomputable def b_f_is_number (cs : Fn → Fd) : SX :=
  (sRet (xAndV (opC 1 (cs .f_is_int) (aCons (xVar 0) aNil)) (xChain gLe gLe (op1 gNeg (xC k_MOST)) (xVar 0) (xC k_MOST))))
noncomputable def b_f_is_name (cs : Fn → Fd) : SX :=
  (sSeq (sIf (xOr (xTest (op2 gIsNot (opN (g1 gTy) (aCons (xVar 0) aNil)) (xC (.ty "str")))) (xOr (xNot (xTest (xChain gLe gLe (xC (.int 1)) (opN (g1 gLen) (aCons (xVar 0) aNil)) (xC (.int 12))))) (xTest (op2 gInB (xVar 0) (xC k_WORDS))))) (sRet (xC (.bl false))) sNil)
  (sRet (xAndV (op2 gInB (op2 gIx (xVar 0) (xC (.int 0))) (xSl (xC k_SIGNS) oNone (oSome (xC (.int 26))))) (xAny false (iE itemsE (xVar 0)) [1] (gNm 1) xYes (op2 gInB (xVar 1) (xC k_SIGNS))))))
noncomputable def b_f_is_there (cs : Fn → Fd) : SX :=
  (sRet (xAndV (op2 gIs (opN (g1 gTy) (aCons (xVar 0) aNil)) (xC (.ty "str"))) (xOrV (op2 gIs (xVar 1) (xC .non)) (op2 gInB (xVar 0) (xVar 1)))))
noncomputable def b_f_expression_parts (cs : Fn → Fd) : SX :=
  (sSeq (sIf (xOr (xTest (op2 gIsNot (opN (g1 gTy) (aCons (xVar 0) aNil)) (xC (.ty "tuple")))) (xOr (xNot (xTru (xVar 0))) (xTest (op2 gIsNot (opN (g1 gTy) (aCons (op2 gIx (xVar 0) (xC (.int 0))) aNil)) (xC (.ty "str")))))) (sRet (xC (.int 0))) sNil)
  (sSeq (sIf (xTest (op2 gEq (op2 gIx (xVar 0) (xC (.int 0))) (xC (.str "n")))) (sRet (xIf (xAnd (xTest (op2 gEq (opN (g1 gLen) (aCons (xVar 0) aNil)) (xC (.int 2)))) (xTru (opC 1 (cs .f_is_number) (aCons (op2 gIx (xVar 0) (xC (.int 1))) aNil)))) (xC (.int 1)) (xC (.int 0)))) sNil)
  (sSeq (sIf (xTest (op2 gEq (op2 gIx (xVar 0) (xC (.int 0))) (xC (.str "x")))) (sRet (xIf (xAnd (xTest (op2 gEq (opN (g1 gLen) (aCons (xVar 0) aNil)) (xC (.int 2)))) (xTru (opC 2 (cs .f_is_there) (aCons (op2 gIx (xVar 0) (xC (.int 1))) (aCons (xVar 1) aNil))))) (xC (.int 1)) (xC (.int 0)))) sNil)
  (sSeq (sIf (xTest (op2 gNe (opN (g1 gLen) (aCons (xVar 0) aNil)) (xC (.int 3)))) (sRet (xC (.int 0))) sNil)
  (sSeq (sIf (xTest (op2 gInB (op2 gIx (xVar 0) (xC (.int 0))) (xTup (aCons (xC (.str "+")) (aCons (xC (.str "-")) aNil))))) (sSeq (sPar2 2 3 (aCons (opC 2 (cs .f_expression_parts) (aCons (op2 gIx (xVar 0) (xC (.int 1))) (aCons (xVar 1) aNil))) (aCons (opC 2 (cs .f_expression_parts) (aCons (op2 gIx (xVar 0) (xC (.int 2))) (aCons (xVar 1) aNil))) aNil)))
  (sRet (xIf (xAnd (xTru (xVar 2)) (xTru (xVar 3))) (op2 gAdd (op2 gAdd (xVar 2) (xVar 3)) (xC (.int 1))) (xC (.int 0))))) sNil)
  (sSeq (sIf (xTest (op2 gEq (op2 gIx (xVar 0) (xC (.int 0))) (xC (.str "*")))) (sSeq (sSet 4 (xIf (xTru (opC 1 (cs .f_is_number) (aCons (op2 gIx (xVar 0) (xC (.int 1))) aNil))) (opC 2 (cs .f_expression_parts) (aCons (op2 gIx (xVar 0) (xC (.int 2))) (aCons (xVar 1) aNil))) (xC (.int 0))))
  (sRet (xIf (xTru (xVar 4)) (op2 gAdd (xVar 4) (xC (.int 1))) (xC (.int 0))))) sNil)
  (sSeq (sIf (xTest (op2 gInB (op2 gIx (xVar 0) (xC (.int 0))) (xTup (aCons (xC (.str "/")) (aCons (xC (.str "mod")) aNil))))) (sSeq (sSet 4 (xIf (xAnd (xTru (opC 1 (cs .f_is_number) (aCons (op2 gIx (xVar 0) (xC (.int 2))) aNil))) (xTest (op2 gGe (op2 gIx (xVar 0) (xC (.int 2))) (xC (.int 1))))) (opC 2 (cs .f_expression_parts) (aCons (op2 gIx (xVar 0) (xC (.int 1))) (aCons (xVar 1) aNil))) (xC (.int 0))))
  (sRet (xIf (xTru (xVar 4)) (op2 gAdd (xVar 4) (xC (.int 1))) (xC (.int 0))))) sNil)
  (sRet (xC (.int 0))))))))))
noncomputable def b_f_condition_parts (cs : Fn → Fd) : SX :=
  (sSeq (sIf (xOr (xTest (op2 gIsNot (opN (g1 gTy) (aCons (xVar 0) aNil)) (xC (.ty "tuple")))) (xOr (xNot (xTru (xVar 0))) (xTest (op2 gIsNot (opN (g1 gTy) (aCons (op2 gIx (xVar 0) (xC (.int 0))) aNil)) (xC (.ty "str")))))) (sRet (xC (.int 0))) sNil)
  (sSeq (sIf (xTest (op2 gEq (op2 gIx (xVar 0) (xC (.int 0))) (xC (.str "yes")))) (sRet (xIf (xTest (op2 gEq (opN (g1 gLen) (aCons (xVar 0) aNil)) (xC (.int 1)))) (xC (.int 1)) (xC (.int 0)))) sNil)
  (sSeq (sIf (xTest (op2 gEq (op2 gIx (xVar 0) (xC (.int 0))) (xC (.str "not")))) (sSeq (sSet 2 (xIf (xTest (op2 gEq (opN (g1 gLen) (aCons (xVar 0) aNil)) (xC (.int 2)))) (opC 2 (cs .f_condition_parts) (aCons (op2 gIx (xVar 0) (xC (.int 1))) (aCons (xVar 1) aNil))) (xC (.int 0))))
  (sRet (xIf (xTru (xVar 2)) (op2 gAdd (xVar 2) (xC (.int 1))) (xC (.int 0))))) sNil)
  (sSeq (sIf (xTest (op2 gNe (opN (g1 gLen) (aCons (xVar 0) aNil)) (xC (.int 3)))) (sRet (xC (.int 0))) sNil)
  (sSeq (sIf (xTest (op2 gInB (op2 gIx (xVar 0) (xC (.int 0))) (xTup (aCons (xC (.str "<")) (aCons (xC (.str "<=")) (aCons (xC (.str "=")) (aCons (xC (.str "!=")) aNil))))))) (sPar2 3 4 (aCons (opC 2 (cs .f_expression_parts) (aCons (op2 gIx (xVar 0) (xC (.int 1))) (aCons (xVar 1) aNil))) (aCons (opC 2 (cs .f_expression_parts) (aCons (op2 gIx (xVar 0) (xC (.int 2))) (aCons (xVar 1) aNil))) aNil))) (sIf (xTest (op2 gInB (op2 gIx (xVar 0) (xC (.int 0))) (xTup (aCons (xC (.str "and")) (aCons (xC (.str "or")) aNil))))) (sPar2 3 4 (aCons (opC 2 (cs .f_condition_parts) (aCons (op2 gIx (xVar 0) (xC (.int 1))) (aCons (xVar 1) aNil))) (aCons (opC 2 (cs .f_condition_parts) (aCons (op2 gIx (xVar 0) (xC (.int 2))) (aCons (xVar 1) aNil))) aNil))) (sRet (xC (.int 0)))))
  (sRet (xIf (xAnd (xTru (xVar 3)) (xTru (xVar 4))) (op2 gAdd (op2 gAdd (xVar 3) (xVar 4)) (xC (.int 1))) (xC (.int 0)))))))))
noncomputable def b_f_is_expression (cs : Fn → Fd) : SX :=
  (sRet (xChain gLe gLe (xC (.int 1)) (opC 2 (cs .f_expression_parts) (aCons (xVar 0) (aCons (xVar 1) aNil))) (xC (.int 30))))
noncomputable def b_f_is_condition (cs : Fn → Fd) : SX :=
  (sRet (xChain gLe gLe (xC (.int 1)) (opC 2 (cs .f_condition_parts) (aCons (xVar 0) (aCons (xVar 1) aNil))) (xC (.int 30))))
noncomputable def b_f_is_type (cs : Fn → Fd) : SX :=
  (sSeq (sIf (xOr (xTest (op2 gIsNot (opN (g1 gTy) (aCons (xVar 0) aNil)) (xC (.ty "tuple")))) (xOr (xTest (op2 gNe (opN (g1 gLen) (aCons (xVar 0) aNil)) (xC (.int 3)))) (xOr (xNot (xTru (opC 1 (cs .f_is_number) (aCons (op2 gIx (xVar 0) (xC (.int 0))) aNil)))) (xOr (xNot (xTru (opC 1 (cs .f_is_number) (aCons (op2 gIx (xVar 0) (xC (.int 1))) aNil)))) (xTest (op2 gGt (op2 gIx (xVar 0) (xC (.int 0))) (op2 gIx (xVar 0) (xC (.int 1))))))))) (sRet (xC (.bl false))) sNil)
  (sRet (opC 2 (cs .f_is_condition) (aCons (op2 gIx (xVar 0) (xC (.int 2))) (aCons (op2 gAdd (opN (g1 gTuple) (aCons (xVar 1) aNil)) (xTup (aCons (xC (.str "v")) aNil))) aNil)))))
noncomputable def b_f_divisions (cs : Fn → Fd) : SX :=
  (sSeq (sIf (xTest (op2 gIsNot (opN (g1 gTy) (aCons (xVar 0) aNil)) (xC (.ty "tuple")))) (sRet (xC (.int 0))) sNil)
  (sSeq (sSet 1 (xIf (xAnd (xTest (op2 gEq (opN (g1 gLen) (aCons (xVar 0) aNil)) (xC (.int 3)))) (xAnd (xTest (op2 gInB (op2 gIx (xVar 0) (xC (.int 0))) (xTup (aCons (xC (.str "/")) (aCons (xC (.str "mod")) aNil))))) (xAnd (xTest (op2 gIs (opN (g1 gTy) (aCons (op2 gIx (xVar 0) (xC (.int 0))) aNil)) (xC (.ty "str")))) (xTest (op2 gIs (opN (g1 gTy) (aCons (op2 gIx (xVar 0) (xC (.int 1))) aNil)) (xC (.ty "tuple"))))))) (xC (.int 1)) (xC (.int 0))))
  (sRet (op2 gAdd (xVar 1) (gnK (iE itemsE (xVar 0)) [2] (gNm 2) xYes (opC 1 (cs .f_divisions) (aCons (xVar 2) aNil)) kSum)))))
noncomputable def b_f_ends (cs : Fn → Fd) : SX :=
  (sSeq (sIf (xNot (xTru (xVar 0))) (sRet (xC (.bl false))) sNil)
  (sSeq (sSet 1 (op2 gIx (xVar 0) (op1 gNeg (xC (.int 1)))))
  (sRet (xOrV (op2 gEq (op2 gIx (xVar 1) (xC (.int 0))) (xC (.str "return"))) (xAndV (op2 gEq (op2 gIx (xVar 1) (xC (.int 0))) (xC (.str "if"))) (xAndV (opC 1 (cs .f_ends) (aCons (op2 gIx (xVar 1) (xC (.int 2))) aNil)) (opC 1 (cs .f_ends) (aCons (op2 gIx (xVar 1) (xC (.int 3))) aNil))))))))
noncomputable def b_f_statements_in (cs : Fn → Fd) : SX :=
  (sSeq (sSet 1 (xLst aNil))
  (sSeq (sFor (iV 0) (gNm 2) (sSeq (sAppOwn 1 (xVar 2))
  (sIf (xTest (op2 gEq (op2 gIx (xVar 2) (xC (.int 0))) (xC (.str "if")))) (sExt 1 (op2 gAdd (opC 1 (cs .f_statements_in) (aCons (op2 gIx (xVar 2) (xC (.int 2))) aNil)) (opC 1 (cs .f_statements_in) (aCons (op2 gIx (xVar 2) (xC (.int 3))) aNil)))) (sIf (xTest (op2 gEq (op2 gIx (xVar 2) (xC (.int 0))) (xC (.str "while")))) (sExt 1 (opC 1 (cs .f_statements_in) (aCons (op2 gIx (xVar 2) (xC (.int 4))) aNil))) sNil))))
  (sRetV 1)))
noncomputable def b_f_block_fits (cs : Fn → Fd) : SX :=
  (sSeq (sIf (xOr (xTest (op2 gIsNot (opN (g1 gTy) (aCons (xVar 0) aNil)) (xC (.ty "tuple")))) (xTest (op2 gGt (xVar 1) (xC (.int 5))))) (sRet (xC (.bl false))) sNil)
  (sSeq (sFor (iEn (iVs 0)) (gTupD 2 (gConsD (gNm 2) (gConsD (gNm 3) gNilD))) (sSeq (sIf (xOr (xTest (op2 gIsNot (opN (g1 gTy) (aCons (xVar 3) aNil)) (xC (.ty "tuple")))) (xOr (xNot (xTru (xVar 3))) (xOr (xTest (op2 gIsNot (opN (g1 gTy) (aCons (op2 gIx (xVar 3) (xC (.int 0))) aNil)) (xC (.ty "str")))) (xTest (op2 gNe (xKGet t_SIZES (op2 gIx (xVar 3) (xC (.int 0)))) (opN (g1 gLen) (aCons (xVar 3) aNil))))))) (sRet (xC (.bl false))) sNil)
  (sSeq (sIf (xAnd (xTest (op2 gEq (op2 gIx (xVar 3) (xC (.int 0))) (xC (.str "if")))) (xNot (xAnd (xTru (opC 2 (cs .f_block_fits) (aCons (op2 gIx (xVar 3) (xC (.int 2))) (aCons (op2 gAdd (xVar 1) (xC (.int 1))) aNil)))) (xTru (opC 2 (cs .f_block_fits) (aCons (op2 gIx (xVar 3) (xC (.int 3))) (aCons (op2 gAdd (xVar 1) (xC (.int 1))) aNil))))))) (sRet (xC (.bl false))) sNil)
  (sSeq (sIf (xAnd (xTest (op2 gEq (op2 gIx (xVar 3) (xC (.int 0))) (xC (.str "while")))) (xNot (xTru (opC 2 (cs .f_block_fits) (aCons (op2 gIx (xVar 3) (xC (.int 4))) (aCons (op2 gAdd (xVar 1) (xC (.int 1))) aNil)))))) (sRet (xC (.bl false))) sNil)
  (sIf (xAnd (xTest (op2 gLt (op2 gAdd (xVar 2) (xC (.int 1))) (opN (g1 gLen) (aCons (xVar 0) aNil)))) (xOr (xTest (op2 gEq (op2 gIx (xVar 3) (xC (.int 0))) (xC (.str "return")))) (xAnd (xTest (op2 gEq (op2 gIx (xVar 3) (xC (.int 0))) (xC (.str "if")))) (xAnd (xTru (opC 1 (cs .f_ends) (aCons (op2 gIx (xVar 3) (xC (.int 2))) aNil))) (xTru (opC 1 (cs .f_ends) (aCons (op2 gIx (xVar 3) (xC (.int 3))) aNil))))))) (sRet (xC (.bl false))) sNil)))))
  (sRet (xC (.bl true)))))
noncomputable def b_f_head_of (cs : Fn → Fd) : SX :=
  (sSeq (sIf (xOr (xTest (op2 gIsNot (opN (g1 gTy) (aCons (xVar 0) aNil)) (xC (.ty "tuple")))) (xOr (xTest (op2 gNe (opN (g1 gLen) (aCons (xVar 0) aNil)) (xC (.int 5)))) (xOr (xNot (xTru (opC 1 (cs .f_is_name) (aCons (op2 gIx (xVar 0) (xC (.int 0))) aNil)))) (xOr (xTest (op2 gIsNot (opN (g1 gTy) (aCons (op2 gIx (xVar 0) (xC (.int 1))) aNil)) (xC (.ty "tuple")))) (xTest (op2 gIsNot (opN (g1 gTy) (aCons (op2 gIx (xVar 0) (xC (.int 2))) aNil)) (xC (.ty "tuple")))))))) (sRet (xC (.bl false))) sNil)
  (sSeq (sIf (xOr (xTest (op2 gGt (opN (g1 gLen) (aCons (op2 gIx (xVar 0) (xC (.int 1))) aNil)) (xC (.int 4)))) (xTest (op2 gGt (opN (g1 gLen) (aCons (op2 gIx (xVar 0) (xC (.int 2))) aNil)) (xC (.int 2))))) (sRet (xC (.bl false))) sNil)
  (sSeq (sSet 1 (xLst aNil))
  (sSeq (sFor (iE itemsS (op2 gIx (xVar 0) (xC (.int 1)))) (gNm 2) (sSeq (sIf (xOr (xTest (op2 gIsNot (opN (g1 gTy) (aCons (xVar 2) aNil)) (xC (.ty "tuple")))) (xOr (xTest (op2 gNe (opN (g1 gLen) (aCons (xVar 2) aNil)) (xC (.int 2)))) (xOr (xNot (xTru (opC 1 (cs .f_is_name) (aCons (op2 gIx (xVar 2) (xC (.int 0))) aNil)))) (xNot (xTru (opC 2 (cs .f_is_type) (aCons (op2 gIx (xVar 2) (xC (.int 1))) (aCons (xVar 1) aNil)))))))) (sRet (xC (.bl false))) sNil)
  (sAppOwn 1 (op2 gIx (xVar 2) (xC (.int 0))))))
  (sSeq (sSet 3 (opN (g1 gList) (aCons (xVar 1) aNil)))
  (sSeq (sFor (iE itemsS (op2 gIx (xVar 0) (xC (.int 2)))) (gNm 4) (sSeq (sIf (xOr (xTest (op2 gIsNot (opN (g1 gTy) (aCons (xVar 4) aNil)) (xC (.ty "tuple")))) (xOr (xTest (op2 gNe (opN (g1 gLen) (aCons (xVar 4) aNil)) (xC (.int 4)))) (xOr (xNot (xTru (opC 1 (cs .f_is_name) (aCons (op2 gIx (xVar 4) (xC (.int 0))) aNil)))) (xNot (xTru (xAny false (iE itemsE (xSl (xVar 4) (oSome (xC (.int 1))) oNone)) [5] (gNm 5) xYes (opC 1 (cs .f_is_number) (aCons (xVar 5) aNil)))))))) (sRet (xC (.bl false))) sNil)
  (sSeq (sIf (xOr (xNot (xTest (xChain gLe gLe (xC (.int 1)) (op2 gIx (xVar 4) (xC (.int 1))) (xC (.int 8))))) (xTest (op2 gGt (op2 gIx (xVar 4) (xC (.int 2))) (op2 gIx (xVar 4) (xC (.int 3)))))) (sRet (xC (.bl false))) sNil)
  (sAppOwn 3 (op2 gIx (xVar 4) (xC (.int 0)))))))
  (sRet (xAndV (op2 gEq (op1 gLenSet (xVar 3)) (opN (g1 gLen) (aCons (xVar 3) aNil))) (xAndV (opC 2 (cs .f_is_expression) (aCons (op2 gIx (xVar 0) (xC (.int 3))) (aCons (xVar 1) aNil))) (opC 2 (cs .f_is_type) (aCons (op2 gIx (xVar 0) (xC (.int 4))) (aCons (xVar 1) aNil))))))))))))
noncomputable def b_f_head_fits (cs : Fn → Fd) : SX :=
  (sRet (xAndV (op2 gIs (opN (g1 gTy) (aCons (xVar 0) aNil)) (xC (.ty "tuple"))) (xAndV (op2 gEq (opN (g1 gLen) (aCons (xVar 0) aNil)) (xC (.int 6))) (opC 1 (cs .f_head_of) (aCons (xSl (xVar 0) oNone (oSome (xC (.int 5)))) aNil)))))
noncomputable def b_f_call_fits (cs : Fn → Fd) : SX :=
  (sSeq (sSet 4 (xIf (xTest (op2 gIs (opN (g1 gTy) (aCons (op2 gIx (xVar 2) (xC (.int 3))) aNil)) (xC (.ty "str")))) (xGet1 (xVar 0) (op2 gIx (xVar 2) (xC (.int 3)))) (xC .non)))
  (sSeq (sIf (xOr (xTest (op2 gIs (xVar 4) (xC .non))) (xOr (xTest (op2 gIsNot (opN (g1 gTy) (aCons (op2 gIx (xVar 2) (xC (.int 4))) aNil)) (xC (.ty "tuple")))) (xTest (op2 gIsNot (opN (g1 gTy) (aCons (op2 gIx (xVar 2) (xC (.int 5))) aNil)) (xC (.ty "tuple")))))) (sRet (xC (.bl false))) sNil)
  (sSeq (sIf (xOr (xTest (op2 gNe (opN (g1 gLen) (aCons (op2 gIx (xVar 2) (xC (.int 4))) aNil)) (opN (g1 gLen) (aCons (op2 gIx (xVar 4) (xC (.int 1))) aNil)))) (xOr (xTest (op2 gNe (opN (g1 gLen) (aCons (op2 gIx (xVar 2) (xC (.int 5))) aNil)) (opN (g1 gLen) (aCons (op2 gIx (xVar 4) (xC (.int 2))) aNil)))) (xNot (xTru (xAny false (iE itemsE (op2 gIx (xVar 2) (xC (.int 4)))) [5] (gNm 5) xYes (opC 2 (cs .f_is_expression) (aCons (xVar 5) (aCons (xVar 3) aNil)))))))) (sRet (xC (.bl false))) sNil)
  (sSeq (sSet 6 (xDc (iE itemsE (op2 gIx (xVar 1) (xC (.int 2)))) [7] (gNm 7) xYes (op2 gIx (xVar 7) (xC (.int 0))) (xSl (xVar 7) (oSome (xC (.int 1))) oNone)))
  (sSeq (sIf (xOr (xNot (xTru (xAny false (iE itemsE (op2 gIx (xVar 2) (xC (.int 5)))) [7] (gNm 7) xYes (xAndV (op2 gIs (opN (g1 gTy) (aCons (xVar 7) aNil)) (xC (.ty "str"))) (op2 gInB (xVar 7) (xVar 6)))))) (xTest (op2 gNe (op1 gLenSet (op2 gIx (xVar 2) (xC (.int 5)))) (opN (g1 gLen) (aCons (op2 gIx (xVar 2) (xC (.int 5))) aNil))))) (sRet (xC (.bl false))) sNil)
  (sRet (xAny false (iZip kseqE (aCons (op2 gIx (xVar 2) (xC (.int 5))) (aCons (op2 gIx (xVar 4) (xC (.int 2))) aNil))) [7, 8] (gTupD 2 (gConsD (gNm 7) (gConsD (gNm 8) gNilD))) xYes (op2 gEq (op2 gIx (xVar 6) (xVar 7)) (xSl (xVar 8) (oSome (xC (.int 1))) oNone)))))))))
noncomputable def b_f_statement_fits (cs : Fn → Fd) : SX :=
  (sSeq (sSet 5 (xLc (iE itemsE (op2 gIx (xVar 1) (xC (.int 1)))) [6] (gNm 6) xYes (op2 gIx (xVar 6) (xC (.int 0)))))
  (sSeq (sSet 7 (xLc (iE itemsE (op2 gIx (xVar 1) (xC (.int 2)))) [8] (gNm 8) xYes (op2 gIx (xVar 8) (xC (.int 0)))))
  (sSeq (sSet 9 (op2 gIx (xVar 2) (xC (.int 0))))
  (sSeq (sIf (xAnd (xTest (op2 gInB (xVar 9) (xTup (aCons (xC (.str "let")) (aCons (xC (.str "call")) (aCons (xC (.str "get")) aNil)))))) (xNot (xAnd (xTru (opC 1 (cs .f_is_name) (aCons (op2 gIx (xVar 2) (xC (.int 1))) aNil))) (xTru (opC 2 (cs .f_is_type) (aCons (op2 gIx (xVar 2) (xC (.int 2))) (aCons (xVar 5) aNil))))))) (sRet (xC (.bl false))) sNil)
  (sSeq (sIf (xTest (op2 gEq (xVar 9) (xC (.str "let")))) (sRet (opC 2 (cs .f_is_expression) (aCons (op2 gIx (xVar 2) (xC (.int 3))) (aCons (xVar 3) aNil)))) sNil)
  (sSeq (sIf (xTest (op2 gEq (xVar 9) (xC (.str "set")))) (sRet (xAndV (op2 gIs (opN (g1 gTy) (aCons (op2 gIx (xVar 2) (xC (.int 1))) aNil)) (xC (.ty "str"))) (xAndV (op2 gInB (op2 gIx (xVar 2) (xC (.int 1))) (xVar 4)) (opC 2 (cs .f_is_expression) (aCons (op2 gIx (xVar 2) (xC (.int 2))) (aCons (xVar 3) aNil)))))) sNil)
  (sSeq (sIf (xTest (op2 gEq (xVar 9) (xC (.str "call")))) (sRet (opC 4 (cs .f_call_fits) (aCons (xVar 0) (aCons (xVar 1) (aCons (xVar 2) (aCons (xVar 3) aNil)))))) sNil)
  (sSeq (sIf (xTest (op2 gEq (xVar 9) (xC (.str "get")))) (sRet (xAndV (op2 gIs (opN (g1 gTy) (aCons (op2 gIx (xVar 2) (xC (.int 3))) aNil)) (xC (.ty "str"))) (xAndV (op2 gInB (op2 gIx (xVar 2) (xC (.int 3))) (xVar 7)) (opC 2 (cs .f_is_expression) (aCons (op2 gIx (xVar 2) (xC (.int 4))) (aCons (xVar 3) aNil)))))) sNil)
  (sSeq (sIf (xTest (op2 gEq (xVar 9) (xC (.str "put")))) (sRet (xAndV (op2 gIs (opN (g1 gTy) (aCons (op2 gIx (xVar 2) (xC (.int 1))) aNil)) (xC (.ty "str"))) (xAndV (op2 gInB (op2 gIx (xVar 2) (xC (.int 1))) (xVar 7)) (xAndV (opC 2 (cs .f_is_expression) (aCons (op2 gIx (xVar 2) (xC (.int 2))) (aCons (xVar 3) aNil))) (opC 2 (cs .f_is_expression) (aCons (op2 gIx (xVar 2) (xC (.int 3))) (aCons (xVar 3) aNil))))))) sNil)
  (sSeq (sIf (xTest (op2 gEq (xVar 9) (xC (.str "while")))) (sRet (xAndV (opC 2 (cs .f_is_condition) (aCons (op2 gIx (xVar 2) (xC (.int 1))) (aCons (xVar 3) aNil))) (xAndV (opC 2 (cs .f_is_condition) (aCons (op2 gIx (xVar 2) (xC (.int 2))) (aCons (xVar 3) aNil))) (opC 2 (cs .f_is_expression) (aCons (op2 gIx (xVar 2) (xC (.int 3))) (aCons (xVar 3) aNil)))))) sNil)
  (sSeq (sIf (xTest (op2 gInB (xVar 9) (xTup (aCons (xC (.str "if")) (aCons (xC (.str "say")) aNil))))) (sRet (opC 2 (cs .f_is_condition) (aCons (op2 gIx (xVar 2) (xC (.int 1))) (aCons (xVar 3) aNil)))) sNil)
  (sRet (opC 2 (cs .f_is_expression) (aCons (op2 gIx (xVar 2) (xC (.int 1))) (aCons (xVar 3) aNil)))))))))))))))
noncomputable def b_f_names_fit (cs : Fn → Fd) : SX :=
  (sSeq (sAsg (gTupD 2 (gConsD (gNm 3) (gConsD (gNm 4) gNilD))) (xTup (aCons (xShare (opN (g1 gList) (aCons (xVar 3) aNil))) (aCons (xShare (opN (g1 gList) (aCons (xVar 4) aNil))) aNil))))
  (sSeq (sFor (iV 2) (gNm 5) (sSeq (sIf (xNot (xTru (opC 5 (cs .f_statement_fits) (aCons (xVar 0) (aCons (xVar 1) (aCons (xVar 5) (aCons (xVar 3) (aCons (xVar 4) aNil)))))))) (sRet (xC (.bl false))) sNil)
  (sSeq (sSet 6 (xIf (xTest (op2 gEq (op2 gIx (xVar 5) (xC (.int 0))) (xC (.str "if")))) (xSl (xVar 5) (oSome (xC (.int 2))) (oSome (xC (.int 4)))) (xIf (xTest (op2 gEq (op2 gIx (xVar 5) (xC (.int 0))) (xC (.str "while")))) (xTup (aCons (op2 gIx (xVar 5) (xC (.int 4))) aNil)) (xTup aNil))))
  (sSeq (sIf (xNot (xTru (xAny false (iE itemsE (xVar 6)) [7] (gNm 7) xYes (opC 5 (cs .f_names_fit) (aCons (xVar 0) (aCons (xVar 1) (aCons (xVar 7) (aCons (xVar 3) (aCons (xVar 4) aNil))))))))) (sRet (xC (.bl false))) sNil)
  (sIf (xTest (op2 gInB (op2 gIx (xVar 5) (xC (.int 0))) (xTup (aCons (xC (.str "let")) (aCons (xC (.str "call")) (aCons (xC (.str "get")) aNil)))))) (sSeq (sApp (xVar 3) (op2 gIx (xVar 5) (xC (.int 1))))
  (sApp (xVar 4) (op2 gIx (xVar 5) (xC (.int 1))))) sNil)))))
  (sRet (xC (.bl true)))))
noncomputable def b_f_function_fits (cs : Fn → Fd) : SX :=
  (sSeq (sIf (xOr (xNot (xTru (opC 2 (cs .f_block_fits) (aCons (op2 gIx (xVar 1) (xC (.int 5))) (aCons (xC (.int 1)) aNil))))) (xNot (xTru (opC 1 (cs .f_ends) (aCons (op2 gIx (xVar 1) (xC (.int 5))) aNil))))) (sRet (xC (.bl false))) sNil)
  (sSeq (sSet 2 (opC 1 (cs .f_statements_in) (aCons (op2 gIx (xVar 1) (xC (.int 5))) aNil)))
  (sSeq (sSet 3 (gnK (iE itemsE (xVar 2)) [4] (gNm 4) (xTest (op2 gInB (op2 gIx (xVar 4) (xC (.int 0))) (xTup (aCons (xC (.str "if")) (aCons (xC (.str "while")) aNil))))) (xC (.int 1)) kSum))
  (sSeq (sSet 5 (gnK (iE itemsE (xVar 2)) [4] (gNm 4) (xTest (op2 gInB (op2 gIx (xVar 4) (xC (.int 0))) (xTup (aCons (xC (.str "call")) (aCons (xC (.str "get")) aNil))))) (xC (.int 1)) kSum))
  (sSeq (sIf (xOr (xTest (op2 gGt (opN (g1 gLen) (aCons (xVar 2) aNil)) (xC (.int 40)))) (xOr (xTest (op2 gGt (xVar 3) (xC (.int 3)))) (xTest (op2 gGt (xVar 5) (xC (.int 3)))))) (sRet (xC (.bl false))) sNil)
  (sSeq (sSet 6 (xLc (iE itemsE (op2 gIx (xVar 1) (xC (.int 1)))) [7] (gNm 7) xYes (op2 gIx (xVar 7) (xC (.int 0)))))
  (sSeq (sIf (xNot (xTru (opC 5 (cs .f_names_fit) (aCons (xVar 0) (aCons (xVar 1) (aCons (op2 gIx (xVar 1) (xC (.int 5))) (aCons (xVar 6) (aCons (xTup aNil) aNil)))))))) (sRet (xC (.bl false))) sNil)
  (sSeq (sSet 8 (op2 gAdd (op2 gAdd (xVar 6) (xLc (iE itemsE (op2 gIx (xVar 1) (xC (.int 2)))) [9] (gNm 9) xYes (op2 gIx (xVar 9) (xC (.int 0))))) (xLc (iE itemsE (xVar 2)) [4] (gNm 4) (xTest (op2 gInB (op2 gIx (xVar 4) (xC (.int 0))) (xTup (aCons (xC (.str "let")) (aCons (xC (.str "call")) (aCons (xC (.str "get")) aNil)))))) (op2 gIx (xVar 4) (xC (.int 1))))))
  (sRet (xAndV (op2 gEq (op1 gLenSet (xVar 8)) (opN (g1 gLen) (aCons (xVar 8) aNil))) (op2 gLe (opC 1 (cs .f_divisions) (aCons (xVar 1) aNil)) (xC (.int 12)))))))))))))
noncomputable def b_f_is_whole (cs : Fn → Fd) : SX :=
  (sSeq (sIf (xOr (xTest (op2 gIsNot (opN (g1 gTy) (aCons (xVar 0) aNil)) (xC (.ty "tuple")))) (xOr (xNot (xTest (xChain gLe gLe (xC (.int 1)) (opN (g1 gLen) (aCons (xVar 0) aNil)) (xC (.int 6))))) (xNot (xTru (xAny false (iE itemsE (xVar 0)) [1] (gNm 1) xYes (opC 1 (cs .f_head_fits) (aCons (xVar 1) aNil))))))) (sRet (xC (.bl false))) sNil)
  (sSeq (sSet 2 (xDc (iE itemsE (xVar 0)) [1] (gNm 1) xYes (op2 gIx (xVar 1) (xC (.int 0))) (xVar 1)))
  (sRet (xAndV (op2 gEq (opN (g1 gLen) (aCons (xVar 2) aNil)) (opN (g1 gLen) (aCons (xVar 0) aNil))) (xAny false (iE itemsE (xVar 0)) [1] (gNm 1) xYes (opC 2 (cs .f_function_fits) (aCons (xVar 2) (aCons (xVar 1) aNil))))))))
noncomputable def b_f_whole (cs : Fn → Fd) : SX :=
  (sSeq (sIf (xNot (xTru (opC 1 (cs .f_is_whole) (aCons (xVar 0) aNil)))) (sRaise "BadProgram" (aCons (xC (.str "not whole")) aNil)) sNil)
  (sRet (xDc (iE itemsE (xVar 0)) [1] (gNm 1) xYes (op2 gIx (xVar 1) (xC (.int 0))) (xVar 1))))
noncomputable def b_f_tight (cs : Fn → Fd) : SX :=
  (sSeq (sSet 1 (opC 1 (cs .f_expression) (aCons (xVar 0) aNil)))
  (sRet (xIf (xOr (xTest (op2 gEq (op2 gIx (xVar 0) (xC (.int 0))) (xC (.str "x")))) (xAnd (xTest (op2 gEq (op2 gIx (xVar 0) (xC (.int 0))) (xC (.str "n")))) (xTest (op2 gGe (op2 gIx (xVar 0) (xC (.int 1))) (xC (.int 0)))))) (xVar 1) (op2 gAdd (op2 gAdd (xC (.str "(")) (xVar 1)) (xC (.str ")"))))))
noncomputable def b_f_expression (cs : Fn → Fd) : SX :=
  (sSeq (sSet 1 (op2 gIx (xVar 0) (xC (.int 0))))
  (sSeq (sIf (xTest (op2 gEq (xVar 1) (xC (.str "n")))) (sRet (opN (g1 gStr) (aCons (op2 gIx (xVar 0) (xC (.int 1))) aNil))) sNil)
  (sSeq (sIf (xTest (op2 gEq (xVar 1) (xC (.str "x")))) (sRet (op2 gIx (xVar 0) (xC (.int 1)))) sNil)
  (sSeq (sIf (xTest (op2 gEq (xVar 1) (xC (.str "*")))) (sRet (op2 gAdd (op2 gAdd (opN (g1 gStr) (aCons (op2 gIx (xVar 0) (xC (.int 1))) aNil)) (xC (.str " * "))) (opC 1 (cs .f_tight) (aCons (op2 gIx (xVar 0) (xC (.int 2))) aNil)))) sNil)
  (sSeq (sIf (xTest (op2 gInB (xVar 1) (xTup (aCons (xC (.str "/")) (aCons (xC (.str "mod")) aNil))))) (sRet (op2 gAdd (op2 gAdd (op2 gAdd (op2 gAdd (opC 1 (cs .f_tight) (aCons (op2 gIx (xVar 0) (xC (.int 1))) aNil)) (xC (.str " "))) (xVar 1)) (xC (.str " "))) (opN (g1 gStr) (aCons (op2 gIx (xVar 0) (xC (.int 2))) aNil)))) sNil)
  (sSeq (sSet 2 (opC 1 (cs .f_expression) (aCons (op2 gIx (xVar 0) (xC (.int 2))) aNil)))
  (sSeq (sIf (xOr (xTest (op2 gInB (op2 gIx (op2 gIx (xVar 0) (xC (.int 2))) (xC (.int 0))) (xTup (aCons (xC (.str "+")) (aCons (xC (.str "-")) aNil))))) (xTest (op2 gEq (op2 gIx (xVar 2) (xC (.int 0))) (xC (.str "-"))))) (sSet 2 (op2 gAdd (op2 gAdd (xC (.str "(")) (xVar 2)) (xC (.str ")")))) sNil)
  (sRet (op2 gAdd (op2 gAdd (op2 gAdd (op2 gAdd (opC 1 (cs .f_expression) (aCons (op2 gIx (xVar 0) (xC (.int 1))) aNil)) (xC (.str " "))) (xVar 1)) (xC (.str " "))) (xVar 2))))))))))
noncomputable def b_f_held (cs : Fn → Fd) : SX :=
  (sSeq (sSet 2 (opC 1 (cs .f_condition) (aCons (xVar 0) aNil)))
  (sRet (xIf (xTest (op2 gInB (op2 gIx (xVar 0) (xC (.int 0))) (xVar 1))) (op2 gAdd (op2 gAdd (xC (.str "(")) (xVar 2)) (xC (.str ")"))) (xVar 2))))
noncomputable def b_f_condition (cs : Fn → Fd) : SX :=
  (sSeq (sSet 1 (op2 gIx (xVar 0) (xC (.int 0))))
  (sSeq (sIf (xTest (op2 gEq (xVar 1) (xC (.str "yes")))) (sRet (xC (.str "yes"))) sNil)
  (sSeq (sIf (xTest (op2 gEq (xVar 1) (xC (.str "not")))) (sRet (op2 gAdd (xC (.str "not ")) (opC 2 (cs .f_held) (aCons (op2 gIx (xVar 0) (xC (.int 1))) (aCons (xTup (aCons (xC (.str "and")) (aCons (xC (.str "or")) aNil))) aNil))))) sNil)
  (sSeq (sIf (xTest (op2 gEq (xVar 1) (xC (.str "and")))) (sRet (op2 gAdd (op2 gAdd (opC 2 (cs .f_held) (aCons (op2 gIx (xVar 0) (xC (.int 1))) (aCons (xTup (aCons (xC (.str "or")) aNil)) aNil))) (xC (.str " and "))) (opC 2 (cs .f_held) (aCons (op2 gIx (xVar 0) (xC (.int 2))) (aCons (xTup (aCons (xC (.str "and")) (aCons (xC (.str "or")) aNil))) aNil))))) sNil)
  (sSeq (sIf (xTest (op2 gEq (xVar 1) (xC (.str "or")))) (sRet (op2 gAdd (op2 gAdd (opC 1 (cs .f_condition) (aCons (op2 gIx (xVar 0) (xC (.int 1))) aNil)) (xC (.str " or "))) (opC 2 (cs .f_held) (aCons (op2 gIx (xVar 0) (xC (.int 2))) (aCons (xTup (aCons (xC (.str "or")) aNil)) aNil))))) sNil)
  (sRet (op2 gAdd (op2 gAdd (op2 gAdd (op2 gAdd (opC 1 (cs .f_expression) (aCons (op2 gIx (xVar 0) (xC (.int 1))) aNil)) (xC (.str " "))) (xVar 1)) (xC (.str " "))) (opC 1 (cs .f_expression) (aCons (op2 gIx (xVar 0) (xC (.int 2))) aNil)))))))))
noncomputable def b_f_type_text (cs : Fn → Fd) : SX :=
  (sSeq (sSet 1 (op2 gAdd (op2 gAdd (opN (g1 gStr) (aCons (op2 gIx (xVar 0) (xC (.int 0))) aNil)) (xC (.str " to "))) (opN (g1 gStr) (aCons (op2 gIx (xVar 0) (xC (.int 1))) aNil))))
  (sRet (xIf (xTest (op2 gEq (op2 gIx (xVar 0) (xC (.int 2))) (xTup (aCons (xC (.str "yes")) aNil)))) (xVar 1) (op2 gAdd (op2 gAdd (xVar 1) (xC (.str " of "))) (opC 1 (cs .f_condition) (aCons (op2 gIx (xVar 0) (xC (.int 2))) aNil))))))
noncomputable def b_f_call_text (cs : Fn → Fd) : SX :=
  (sSeq (sSet 3 (xJoinG (xC (.str ", ")) fun z => gnK (iE itemsE (xVar 1)) [4] (gNm 4) xYes (opC 1 (cs .f_expression) (aCons (xVar 4) aNil)) (kJoin z)))
  (sRet (op2 gAdd (op2 gAdd (op2 gAdd (op2 gAdd (xVar 0) (xC (.str "("))) (xVar 3)) (xIf (xTru (xVar 2)) (op2 gAdd (xC (.str "; ")) (opM1 gJoin (xC (.str ", ")) (xVar 2))) (xC (.str "")))) (xC (.str ")")))))
noncomputable def b_f_statement (cs : Fn → Fd) : SX :=
  (sSeq (sSet 2 (op2 gIx (xVar 0) (xC (.int 0))))
  (sSeq (sIf (xTest (op2 gEq (xVar 2) (xC (.str "if")))) (sSeq (sSet 3 (op2 gAdd (xLst (aCons (op2 gAdd (op2 gAdd (xVar 1) (xC (.str "if "))) (opC 1 (cs .f_condition) (aCons (op2 gIx (xVar 0) (xC (.int 1))) aNil))) aNil)) (opC 2 (cs .f_block_rows) (aCons (op2 gIx (xVar 0) (xC (.int 2))) (aCons (op2 gAdd (xVar 1) (xC (.str "  "))) aNil)))))
  (sRet (op2 gAdd (xVar 3) (xIf (xTru (op2 gIx (xVar 0) (xC (.int 3)))) (op2 gAdd (xLst (aCons (op2 gAdd (xVar 1) (xC (.str "else"))) aNil)) (opC 2 (cs .f_block_rows) (aCons (op2 gIx (xVar 0) (xC (.int 3))) (aCons (op2 gAdd (xVar 1) (xC (.str "  "))) aNil)))) (xLst aNil))))) sNil)
  (sSeq (sIf (xTest (op2 gEq (xVar 2) (xC (.str "while")))) (sSeq (sSet 4 (op2 gAdd (op2 gAdd (op2 gAdd (op2 gAdd (op2 gAdd (xC (.str "while ")) (opC 1 (cs .f_condition) (aCons (op2 gIx (xVar 0) (xC (.int 1))) aNil))) (xC (.str " keeps "))) (opC 1 (cs .f_condition) (aCons (op2 gIx (xVar 0) (xC (.int 2))) aNil))) (xC (.str " falls "))) (opC 1 (cs .f_expression) (aCons (op2 gIx (xVar 0) (xC (.int 3))) aNil))))
  (sRet (op2 gAdd (xLst (aCons (op2 gAdd (xVar 1) (xVar 4)) aNil)) (opC 2 (cs .f_block_rows) (aCons (op2 gIx (xVar 0) (xC (.int 4))) (aCons (op2 gAdd (xVar 1) (xC (.str "  "))) aNil)))))) sNil)
  (sSeq (sIf (xTest (op2 gInB (xVar 2) (xTup (aCons (xC (.str "let")) (aCons (xC (.str "call")) (aCons (xC (.str "get")) aNil)))))) (sSeq (sSet 5 (op2 gAdd (op2 gAdd (op2 gAdd (op2 gAdd (op2 gAdd (xVar 2) (xC (.str " "))) (op2 gIx (xVar 0) (xC (.int 1)))) (xC (.str ": "))) (opC 1 (cs .f_type_text) (aCons (op2 gIx (xVar 0) (xC (.int 2))) aNil))) (xC (.str " = "))))
  (sIf (xTest (op2 gEq (xVar 2) (xC (.str "let")))) (sAug gIAdd 5 (opC 1 (cs .f_expression) (aCons (op2 gIx (xVar 0) (xC (.int 3))) aNil))) (sIf (xTest (op2 gEq (xVar 2) (xC (.str "call")))) (sAug gIAdd 5 (opC 3 (cs .f_call_text) (aCons (op2 gIx (xVar 0) (xC (.int 3))) (aCons (op2 gIx (xVar 0) (xC (.int 4))) (aCons (op2 gIx (xVar 0) (xC (.int 5))) aNil))))) (sAug gIAdd 5 (op2 gAdd (op2 gAdd (op2 gAdd (op2 gIx (xVar 0) (xC (.int 3))) (xC (.str "["))) (opC 1 (cs .f_expression) (aCons (op2 gIx (xVar 0) (xC (.int 4))) aNil))) (xC (.str "]"))))))) (sIf (xTest (op2 gEq (xVar 2) (xC (.str "set")))) (sSet 5 (op2 gAdd (op2 gAdd (op2 gAdd (xC (.str "set ")) (op2 gIx (xVar 0) (xC (.int 1)))) (xC (.str " = "))) (opC 1 (cs .f_expression) (aCons (op2 gIx (xVar 0) (xC (.int 2))) aNil)))) (sIf (xTest (op2 gEq (xVar 2) (xC (.str "put")))) (sSet 5 (op2 gAdd (op2 gAdd (op2 gAdd (op2 gAdd (op2 gAdd (xC (.str "put ")) (op2 gIx (xVar 0) (xC (.int 1)))) (xC (.str "["))) (opC 1 (cs .f_expression) (aCons (op2 gIx (xVar 0) (xC (.int 2))) aNil))) (xC (.str "] = "))) (opC 1 (cs .f_expression) (aCons (op2 gIx (xVar 0) (xC (.int 3))) aNil)))) (sIf (xTest (op2 gEq (xVar 2) (xC (.str "say")))) (sSet 5 (op2 gAdd (xC (.str "say ")) (opC 1 (cs .f_condition) (aCons (op2 gIx (xVar 0) (xC (.int 1))) aNil)))) (sSet 5 (op2 gAdd (xC (.str "return ")) (opC 1 (cs .f_expression) (aCons (op2 gIx (xVar 0) (xC (.int 1))) aNil))))))))
  (sRet (xLst (aCons (op2 gAdd (xVar 1) (xVar 5)) aNil)))))))
noncomputable def b_f_block_rows (cs : Fn → Fd) : SX :=
  (sRet (xLc2 (iE itemsE (xVar 0)) [2, 3] (gNm 2) xYes (iE itemsS (opC 2 (cs .f_statement) (aCons (xVar 2) (aCons (xVar 1) aNil)))) [3] (gNm 3) xYes (xVar 3)))
noncomputable def b_f_head (cs : Fn → Fd) : SX :=
  (sSeq (sSet 1 (op2 gAdd (op2 gAdd (op2 gAdd (op2 gAdd (xC (.str "fun ")) (op2 gIx (xVar 0) (xC (.int 0)))) (xC (.str "("))) (xJoinG (xC (.str ", ")) fun z => gnK (iE itemsE (op2 gIx (xVar 0) (xC (.int 1)))) [2] (gNm 2) xYes (op2 gAdd (op2 gAdd (op2 gIx (xVar 2) (xC (.int 0))) (xC (.str ": "))) (opC 1 (cs .f_type_text) (aCons (op2 gIx (xVar 2) (xC (.int 1))) aNil))) (kJoin z))) (xC (.str ")"))))
  (sSeq (sIf (xTru (op2 gIx (xVar 0) (xC (.int 2)))) (sSeq (sSet 3 (xLc (iE itemsE (op2 gIx (xVar 0) (xC (.int 2)))) [4] (gNm 4) xYes (op2 gAdd (op2 gAdd (op2 gAdd (op2 gAdd (op2 gAdd (op2 gAdd (op2 gAdd (op2 gIx (xVar 4) (xC (.int 0))) (xC (.str "["))) (opN (g1 gStr) (aCons (op2 gIx (xVar 4) (xC (.int 1))) aNil))) (xC (.str ": "))) (opN (g1 gStr) (aCons (op2 gIx (xVar 4) (xC (.int 2))) aNil))) (xC (.str " to "))) (opN (g1 gStr) (aCons (op2 gIx (xVar 4) (xC (.int 3))) aNil))) (xC (.str "]")))))
  (sAug gIAdd 1 (op2 gAdd (xC (.str " rows ")) (opM1 gJoin (xC (.str ", ")) (xVar 3))))) sNil)
  (sRet (op2 gAdd (op2 gAdd (op2 gAdd (op2 gAdd (xVar 1) (xC (.str " falls "))) (opC 1 (cs .f_expression) (aCons (op2 gIx (xVar 0) (xC (.int 3))) aNil))) (xC (.str " to "))) (opC 1 (cs .f_type_text) (aCons (op2 gIx (xVar 0) (xC (.int 4))) aNil))))))
noncomputable def b_f_write (cs : Fn → Fd) : SX :=
  (sSeq (sEx (opC 1 (cs .f_whole) (aCons (xVar 0) aNil)))
  (sRet (xJoinG (xC (.str "
")) fun z => gnK2 (iE itemsE (xVar 0)) [1, 2] (gNm 1) xYes (iE itemsS (op2 gAdd (xLst (aCons (opC 1 (cs .f_head) (aCons (xVar 1) aNil)) aNil)) (opC 2 (cs .f_block_rows) (aCons (op2 gIx (xVar 1) (xC (.int 5))) (aCons (xC (.str "  ")) aNil))))) [2] (gNm 2) xYes (xVar 2) (kJoin z))))
noncomputable def b_f_law_cell (cs : Fn → Fd) : SX :=
  (sRet (xIf (xTest (op2 gLt (xVar 1) (opN (g1 gLen) (aCons (xVar 0) aNil)))) (opN (g1 gInt) (aCons (op2 gIx (xVar 0) (xVar 1)) aNil)) (xC (.int 0))))
noncomputable def b_f_law_stream (cs : Fn → Fd) : SX :=
  (sRet (xLst (aCons (opN (g1 gAbs) (aCons (opC 2 (cs .f_law_cell) (aCons (xVar 0) (aCons (xVar 1) aNil))) aNil)) (aCons (op2 gAdd (op2 gMod (opN (g1 gAbs) (aCons (opC 2 (cs .f_law_cell) (aCons (xVar 0) (aCons (xVar 1) aNil))) aNil)) (xC (.int 1000003))) (xC (.int 7))) aNil))))
noncomputable def b_f_law_draw (cs : Fn → Fd) : SX :=
  (sSeq (sIf (xTest (op2 gGt (op2 gIx (xVar 0) (xC (.int 0))) (xC (.int 0)))) (sSeq (sSet 2 (op2 gMod (op2 gIx (xVar 0) (xC (.int 0))) (xVar 1)))
  (sSeq (sSetIx (xVar 0) (xC (.int 0)) (op2 gDiv (op2 gIx (xVar 0) (xC (.int 0))) (xVar 1)))
  (sRet (opN (g1 gInt) (aCons (xVar 2) aNil))))) sNil)
  (sSeq (sSetIx (xVar 0) (xC (.int 1)) (op2 gMod (opN (g1 gInt) (aCons (op2 gAdd (op2 gMulB (op2 gIx (xVar 0) (xC (.int 1))) (xC (.int 48271))) (xC (.int 12345))) aNil)) (xC (.int 2147483647))))
  (sRet (op2 gMod (opN (g1 gInt) (aCons (op2 gDiv (op2 gIx (xVar 0) (xC (.int 1))) (xC (.int 64))) aNil)) (xVar 1)))))
noncomputable def b_f_law_read (cs : Fn → Fd) : SX :=
  (sSeq (sIf (xOr (xTest (op2 gIs (xVar 0) (xC .non))) (xOr (xTest (op2 gIs (xVar 0) (xC (.bl true)))) (xTest (op2 gIs (xVar 0) (xC (.bl false)))))) (sRetV 0) sNil)
  (sSeq (sIf (xTru (opN (g2 gIsi) (aCons (xVar 0) (aCons (xC (.ty "int")) aNil)))) (sRet (opN (g1 gInt) (aCons (xVar 0) aNil))) sNil)
  (sSeq (sIf (xTru (opN (g2 gIsi) (aCons (xVar 0) (aCons (xC (.ty "str")) aNil)))) (sRet (op2 gAdd (xC (.str "")) (xVar 0))) sNil)
  (sSeq (sIf (xTru (opN (g2 gIsi) (aCons (xVar 0) (aCons (xC (.ty "tuple")) aNil)))) (sRet (opN (g1 gTuple) (aCons (xLc (iE itemsE (xVar 0)) [1] (gNm 1) xYes (opC 1 (cs .f_law_read) (aCons (xVar 1) aNil))) aNil))) sNil)
  (sRet (xC (.str "something else")))))))
-- _law_told: try
noncomputable def b_f_law_f (cs : Fn → Fd) : SX :=
  (sSeq (sSet 3 (xTup (aCons (xC (.str "yes")) aNil)))
  (sRet (xTup (aCons (xC (.str "f")) (aCons (xVar 0) (aCons (xVar 1) (aCons (xTup (aCons (xC (.str "n")) (aCons (xC (.int 4)) aNil))) (aCons (xTup (aCons (op2 gSub (xC (.int 0)) (xC (.int 50))) (aCons (xC (.int 50)) (aCons (xVar 3) aNil)))) (aCons (op2 gAdd (xVar 2) (xTup (aCons (xTup (aCons (xC (.str "return")) (aCons (xTup (aCons (xC (.str "n")) (aCons (xC (.int 0)) aNil))) aNil))) aNil))) aNil)))))))))
noncomputable def b_f_law_chain (cs : Fn → Fd) : SX :=
  (sSeq (sSet 2 (xTup (aCons (xC (.str "n")) (aCons (xC (.int 1)) aNil))))
  (sSeq (sFor (iRg1 (op2 gSub (xVar 0) (xC (.int 1)))) (gNm 3) (sSet 2 (xTup (aCons (xC (.str "+")) (aCons (xVar 2) (aCons (xTup (aCons (xC (.str "n")) (aCons (xC (.int 1)) aNil))) aNil))))))
  (sRet (xIf (xTru (xVar 1)) (xTup (aCons (xC (.str "*")) (aCons (xC (.int 1)) (aCons (xVar 2) aNil)))) (xVar 2)))))
noncomputable def b_f_law_sized (cs : Fn → Fd) : SX :=
  (sSeq (sAsg (gTupD 2 (gConsD (gNm 2) (gConsD (gNm 3) gNilD))) (xTup (aCons (xTup (aCons (xC (.str "yes")) aNil)) (aCons (xTup (aCons (xTup (aCons (xC (.str "a")) (aCons (xTup (aCons (xC (.int 0)) (aCons (xC (.int 9)) (aCons (xTup (aCons (xC (.str "yes")) aNil)) aNil)))) aNil))) aNil)) aNil))))
  (sSeq (sPar2 4 5 (aCons (xTup (aCons (xC (.str "say")) (aCons (xVar 2) aNil))) (aCons (xTup (aCons (xC (.str "r")) (aCons (xC (.int 3)) (aCons (xC (.int 0)) (aCons (xC (.int 1)) aNil))))) aNil)))
  (sSeq (sIf (xTest (op2 gEq (xVar 0) (xC (.int 0)))) (sRet (xTup (aCons (opC 3 (cs .f_law_f) (aCons (xVar 3) (aCons (xTup aNil) (aCons (xTup (aCons (xTup (aCons (xC (.str "say")) (aCons (xTup (aCons (xC (.str "=")) (aCons (xTup (aCons (xC (.str "n")) (aCons (op2 gAdd (xC (.int 50)) (xVar 1)) aNil))) (aCons (xTup (aCons (xC (.str "n")) (aCons (op2 gSub (xC (.int 0)) (xC (.int 50))) aNil))) aNil)))) aNil))) aNil)) aNil)))) aNil))) sNil)
  (sSeq (sIf (xTest (op2 gEq (xVar 0) (xC (.int 1)))) (sRet (xTup (aCons (opC 3 (cs .f_law_f) (aCons (xVar 3) (aCons (xTup aNil) (aCons (xTup (aCons (xTup (aCons (xC (.str "say")) (aCons (xTup (aCons (xC (.str "=")) (aCons (xTup (aCons (xC (.str "*")) (aCons (op2 gSub (op2 gSub (xC (.int 0)) (xC (.int 50))) (xVar 1)) (aCons (xTup (aCons (xC (.str "x")) (aCons (xC (.str "a")) aNil))) aNil)))) (aCons (xTup (aCons (xC (.str "/")) (aCons (xTup (aCons (xC (.str "x")) (aCons (xC (.str "a")) aNil))) (aCons (xC (.int 50)) aNil)))) aNil)))) aNil))) aNil)) aNil)))) aNil))) sNil)
  (sSeq (sIf (xTest (op2 gEq (xVar 0) (xC (.int 2)))) (sRet (xTup (aCons (opC 3 (cs .f_law_f) (aCons (xVar 3) (aCons (xTup aNil) (aCons (xTup (aCons (xTup (aCons (xC (.str "say")) (aCons (xTup (aCons (xC (.str "=")) (aCons (xTup (aCons (xC (.str "mod")) (aCons (xTup (aCons (xC (.str "x")) (aCons (xC (.str "a")) aNil))) (aCons (op2 gAdd (xC (.int 50)) (xVar 1)) aNil)))) (aCons (xTup (aCons (xC (.str "n")) (aCons (xC (.int 0)) aNil))) aNil)))) aNil))) aNil)) aNil)))) aNil))) sNil)
  (sSeq (sIf (xTest (op2 gEq (xVar 0) (xC (.int 3)))) (sRet (opN (g1 gTuple) (aCons (xLc (iRg1 (op2 gAdd (xC (.int 6)) (xVar 1))) [6] (gNm 6) xYes (op2 gAdd (xTup (aCons (op2 gAdd (xC (.str "f")) (opN (g1 gStr) (aCons (xVar 6) aNil))) aNil)) (xSl (opC 3 (cs .f_law_f) (aCons (xVar 3) (aCons (xTup aNil) (aCons (xTup aNil) aNil)))) (oSome (xC (.int 1))) oNone))) aNil))) sNil)
  (sSeq (sIf (xTest (op2 gEq (xVar 0) (xC (.int 4)))) (sRet (xTup (aCons (opC 3 (cs .f_law_f) (aCons (opN (g1 gTuple) (aCons (xLc (iRg1 (op2 gAdd (xC (.int 4)) (xVar 1))) [6] (gNm 6) xYes (xTup (aCons (op2 gAdd (xC (.str "p")) (opN (g1 gStr) (aCons (xVar 6) aNil))) (aCons (xTup (aCons (xC (.int 0)) (aCons (xC (.int 9)) (aCons (xVar 2) aNil)))) aNil)))) aNil)) (aCons (xTup aNil) (aCons (xTup aNil) aNil)))) aNil))) sNil)
  (sSeq (sIf (xTest (op2 gEq (xVar 0) (xC (.int 5)))) (sRet (xTup (aCons (opC 3 (cs .f_law_f) (aCons (xVar 3) (aCons (opN (g1 gTuple) (aCons (xLc (iRg1 (op2 gAdd (xC (.int 2)) (xVar 1))) [6] (gNm 6) xYes (xTup (aCons (op2 gAdd (xC (.str "r")) (opN (g1 gStr) (aCons (xVar 6) aNil))) (aCons (xC (.int 3)) (aCons (xC (.int 0)) (aCons (xC (.int 1)) aNil)))))) aNil)) (aCons (xTup aNil) aNil)))) aNil))) sNil)
  (sSeq (sIf (xTest (op2 gEq (xVar 0) (xC (.int 6)))) (sRet (xTup (aCons (opC 3 (cs .f_law_f) (aCons (xVar 3) (aCons (xTup (aCons (xTup (aCons (xC (.str "r")) (aCons (op2 gAdd (xC (.int 8)) (xVar 1)) (aCons (xC (.int 0)) (aCons (xC (.int 0)) aNil))))) aNil)) (aCons (xTup aNil) aNil)))) aNil))) sNil)
  (sSeq (sIf (xTest (op2 gEq (xVar 0) (xC (.int 7)))) (sRet (xTup (aCons (opC 3 (cs .f_law_f) (aCons (xVar 3) (aCons (xTup aNil) (aCons (op2 gMulB (xTup (aCons (xVar 4) aNil)) (op2 gAdd (xC (.int 39)) (xVar 1))) aNil)))) aNil))) sNil)
  (sSeq (sIf (xTest (op2 gEq (xVar 0) (xC (.int 8)))) (sSeq (sSet 7 (opC 2 (cs .f_law_chain) (aCons (op2 gAdd (xC (.int 15)) (xVar 1)) (aCons (op2 gEq (xVar 1) (xC (.int 0))) aNil))))
  (sRet (xTup (aCons (opC 3 (cs .f_law_f) (aCons (xVar 3) (aCons (xTup aNil) (aCons (xTup (aCons (xTup (aCons (xC (.str "let")) (aCons (xC (.str "x")) (aCons (xTup (aCons (op2 gSub (xC (.int 0)) (xC (.int 50))) (aCons (xC (.int 50)) (aCons (xVar 2) aNil)))) (aCons (xVar 7) aNil))))) aNil)) aNil)))) aNil)))) sNil)
  (sSeq (sIf (xTest (op2 gEq (xVar 0) (xC (.int 9)))) (sSeq (sSet 8 (xTup (aCons (xC (.str "<=")) (aCons (opC 2 (cs .f_law_chain) (aCons (xC (.int 7)) (aCons (xC (.bl true)) aNil))) (aCons (opC 2 (cs .f_law_chain) (aCons (xC (.int 8)) (aCons (op2 gEq (xVar 1) (xC (.int 1))) aNil))) aNil)))))
  (sRet (xTup (aCons (opC 3 (cs .f_law_f) (aCons (xVar 3) (aCons (xTup aNil) (aCons (xTup (aCons (xTup (aCons (xC (.str "say")) (aCons (xVar 8) aNil))) aNil)) aNil)))) aNil)))) sNil)
  (sSeq (sIf (xTest (op2 gEq (xVar 0) (xC (.int 10)))) (sSeq (sSet 9 (xTup (aCons (xTup (aCons (xC (.str "if")) (aCons (xVar 2) (aCons (xTup (aCons (xTup (aCons (xC (.str "while")) (aCons (xVar 2) (aCons (xVar 2) (aCons (xTup (aCons (xC (.str "n")) (aCons (xC (.int 1)) aNil))) (aCons (xTup (aCons (xVar 4) aNil)) aNil)))))) aNil)) (aCons (xTup aNil) aNil))))) (aCons (xTup (aCons (xC (.str "if")) (aCons (xVar 2) (aCons (xTup aNil) (aCons (xTup aNil) aNil))))) (aCons (xTup (aCons (xC (.str "while")) (aCons (xVar 2) (aCons (xVar 2) (aCons (xTup (aCons (xC (.str "n")) (aCons (xC (.int 1)) aNil))) (aCons (xTup aNil) aNil)))))) aNil)))))
  (sRet (xTup (aCons (opC 3 (cs .f_law_f) (aCons (xVar 3) (aCons (xTup aNil) (aCons (op2 gAdd (xSl (xVar 9) oNone (oSome (xC (.int 2)))) (op2 gMulB (xSl (xVar 9) (oSome (xC (.int 2))) oNone) (xVar 1))) aNil)))) aNil)))) sNil)
  (sSeq (sIf (xTest (op2 gEq (xVar 0) (xC (.int 11)))) (sSeq (sSet 9 (opN (g1 gTuple) (aCons (xLc (iRg1 (op2 gAdd (xC (.int 2)) (xVar 1))) [6] (gNm 6) xYes (xTup (aCons (xC (.str "get")) (aCons (op2 gAdd (xC (.str "x")) (opN (g1 gStr) (aCons (xVar 6) aNil))) (aCons (xTup (aCons (xC (.int 0)) (aCons (xC (.int 1)) (aCons (xVar 2) aNil)))) (aCons (xC (.str "r")) (aCons (xTup (aCons (xC (.str "n")) (aCons (xC (.int 0)) aNil))) aNil))))))) aNil)))
  (sRet (xTup (aCons (opC 3 (cs .f_law_f) (aCons (xVar 3) (aCons (xTup (aCons (xVar 5) aNil)) (aCons (op2 gAdd (xVar 9) (xTup (aCons (xTup (aCons (xC (.str "call")) (aCons (xC (.str "y")) (aCons (xTup (aCons (xC (.int 0)) (aCons (xC (.int 9)) (aCons (xVar 2) aNil)))) (aCons (xC (.str "f")) (aCons (xTup (aCons (xTup (aCons (xC (.str "n")) (aCons (xC (.int 1)) aNil))) aNil)) (aCons (xTup (aCons (xC (.str "r")) aNil)) aNil))))))) aNil))) aNil)))) aNil)))) sNil)
  (sSeq (sIf (xTest (op2 gEq (xVar 0) (xC (.int 12)))) (sSeq (sSet 8 (xTup (aCons (xC (.str "=")) (aCons (xTup (aCons (xC (.str "mod")) (aCons (xTup (aCons (xC (.str "x")) (aCons (xC (.str "v")) aNil))) (aCons (xC (.int 2)) aNil)))) (aCons (xTup (aCons (xC (.str "/")) (aCons (xTup (aCons (xC (.str "mod")) (aCons (xTup (aCons (xC (.str "x")) (aCons (xC (.str "v")) aNil))) (aCons (xC (.int 2)) aNil)))) (aCons (xC (.int 2)) aNil)))) aNil)))))
  (sSeq (sSet 10 (xTup (aCons (xC (.str "say")) (aCons (xTup (aCons (xC (.str "=")) (aCons (xTup (aCons (xC (.str "/")) (aCons (xTup (aCons (xC (.str "x")) (aCons (xC (.str "a")) aNil))) (aCons (xC (.int 2)) aNil)))) (aCons (xTup (aCons (xC (.str "n")) (aCons (xC (.int 0)) aNil))) aNil)))) aNil))))
  (sSeq (sSet 11 (opN (g1 gTuple) (aCons (xLc (iRg1 (xC (.int 3))) [6] (gNm 6) xYes (xTup (aCons (op2 gAdd (xC (.str "p")) (opN (g1 gStr) (aCons (xVar 6) aNil))) (aCons (xTup (aCons (xC (.int 0)) (aCons (xC (.int 9)) (aCons (xVar 8) aNil)))) aNil)))) aNil)))
  (sRet (xTup (aCons (opC 3 (cs .f_law_f) (aCons (op2 gAdd (xVar 3) (xVar 11)) (aCons (xTup aNil) (aCons (op2 gMulB (xTup (aCons (xVar 10) aNil)) (op2 gAdd (xC (.int 3)) (xVar 1))) aNil)))) aNil)))))) sNil)
  (sSeq (sIf (xTest (op2 gEq (xVar 0) (xC (.int 13)))) (sRet (xTup (aCons (opC 3 (cs .f_law_f) (aCons (xVar 3) (aCons (xTup aNil) (aCons (xTup (aCons (xTup (aCons (xC (.str "let")) (aCons (op2 gMulB (xC (.str "x")) (op2 gAdd (xC (.int 12)) (xVar 1))) (aCons (xTup (aCons (xC (.int 0)) (aCons (xC (.int 9)) (aCons (xVar 2) aNil)))) (aCons (xTup (aCons (xC (.str "n")) (aCons (xC (.int 0)) aNil))) aNil))))) aNil)) aNil)))) aNil))) sNil)
  (sSeq (sIf (xTest (op2 gEq (xVar 0) (xC (.int 14)))) (sRet (xTup (aCons (opC 3 (cs .f_law_f) (aCons (xTup (aCons (xTup (aCons (xC (.str "a")) (aCons (xTup (aCons (op2 gAdd (xC (.int 3)) (xVar 1)) (aCons (xC (.int 3)) (aCons (xVar 2) aNil)))) aNil))) aNil)) (aCons (xTup aNil) (aCons (xTup aNil) aNil)))) aNil))) sNil)
  (sSeq (sIf (xTest (op2 gEq (xVar 0) (xC (.int 15)))) (sRet (xTup (aCons (opC 3 (cs .f_law_f) (aCons (xVar 3) (aCons (xTup (aCons (xTup (aCons (xC (.str "r")) (aCons (xC (.int 2)) (aCons (op2 gAdd (xC (.int 3)) (xVar 1)) (aCons (xC (.int 3)) aNil))))) aNil)) (aCons (xTup aNil) aNil)))) aNil))) sNil)
  (sSeq (sIf (xTest (op2 gEq (xVar 0) (xC (.int 16)))) (sRet (xTup (aCons (opC 3 (cs .f_law_f) (aCons (xVar 3) (aCons (xTup (aCons (xTup (aCons (xC (.str "r")) (aCons (op2 gSub (xC (.int 1)) (xVar 1)) (aCons (xC (.int 0)) (aCons (xC (.int 1)) aNil))))) aNil)) (aCons (xTup aNil) aNil)))) aNil))) sNil)
  (sSeq (sIf (xTest (op2 gEq (xVar 0) (xC (.int 17)))) (sRet (xTup (aCons (opC 3 (cs .f_law_f) (aCons (xVar 3) (aCons (xTup aNil) (aCons (xTup (aCons (xTup (aCons (xC (.str "say")) (aCons (xTup (aCons (xC (.str "=")) (aCons (xTup (aCons (xC (.str "/")) (aCons (xTup (aCons (xC (.str "x")) (aCons (xC (.str "a")) aNil))) (aCons (op2 gSub (xC (.int 1)) (xVar 1)) aNil)))) (aCons (xTup (aCons (xC (.str "n")) (aCons (xC (.int 0)) aNil))) aNil)))) aNil))) aNil)) aNil)))) aNil))) sNil)
  (sSeq (sIf (xTest (op2 gEq (xVar 0) (xC (.int 18)))) (sSeq (sSet 12 (xIf (xTest (op2 gEq (xVar 1) (xC (.int 0)))) (xTup (aCons (xC (.str "r")) (aCons (xC (.str "s")) aNil))) (xTup (aCons (xC (.str "r")) (aCons (xC (.str "r")) aNil)))))
  (sSeq (sSet 13 (xTup (aCons (xVar 5) (aCons (xTup (aCons (xC (.str "s")) (aCons (xC (.int 3)) (aCons (xC (.int 0)) (aCons (xC (.int 1)) aNil))))) aNil))))
  (sRet (xTup (aCons (opC 3 (cs .f_law_f) (aCons (xVar 3) (aCons (xVar 13) (aCons (xTup (aCons (xTup (aCons (xC (.str "call")) (aCons (xC (.str "y")) (aCons (xTup (aCons (xC (.int 0)) (aCons (xC (.int 9)) (aCons (xVar 2) aNil)))) (aCons (xC (.str "f")) (aCons (xTup (aCons (xTup (aCons (xC (.str "n")) (aCons (xC (.int 1)) aNil))) aNil)) (aCons (xVar 12) aNil))))))) aNil)) aNil)))) aNil))))) sNil)
  (sSeq (sIf (xTest (op2 gEq (xVar 0) (xC (.int 19)))) (sSeq (sSet 14 (op2 gAdd (xTup (aCons (xC (.str "g")) aNil)) (xSl (opC 3 (cs .f_law_f) (aCons (xVar 3) (aCons (xTup (aCons (xTup (aCons (xC (.str "t")) (aCons (xC (.int 3)) (aCons (xC (.int 0)) (aCons (op2 gAdd (xC (.int 1)) (xVar 1)) aNil))))) aNil)) (aCons (xTup aNil) aNil)))) (oSome (xC (.int 1))) oNone)))
  (sRet (xTup (aCons (opC 3 (cs .f_law_f) (aCons (xVar 3) (aCons (xTup (aCons (xVar 5) aNil)) (aCons (xTup (aCons (xTup (aCons (xC (.str "call")) (aCons (xC (.str "y")) (aCons (xTup (aCons (xC (.int 0)) (aCons (xC (.int 9)) (aCons (xVar 2) aNil)))) (aCons (xC (.str "g")) (aCons (xTup (aCons (xTup (aCons (xC (.str "n")) (aCons (xC (.int 1)) aNil))) aNil)) (aCons (xTup (aCons (xC (.str "r")) aNil)) aNil))))))) aNil)) aNil)))) (aCons (xVar 14) aNil))))) sNil)
  (sSeq (sSet 15 (xTup (aCons (xC (.str "if")) (aCons (xVar 2) (aCons (xTup (aCons (xTup (aCons (xC (.str "return")) (aCons (xTup (aCons (xC (.str "n")) (aCons (xC (.int 1)) aNil))) aNil))) aNil)) (aCons (xTup (aCons (xTup (aCons (xC (.str "return")) (aCons (xTup (aCons (xC (.str "n")) (aCons (xC (.int 2)) aNil))) aNil))) aNil)) aNil))))))
  (sRet (xTup (aCons (opC 3 (cs .f_law_f) (aCons (xVar 3) (aCons (xTup aNil) (aCons (xIf (xTest (op2 gEq (xVar 1) (xC (.int 0)))) (xTup (aCons (xTup (aCons (xC (.str "if")) (aCons (xVar 2) (aCons (xTup (aCons (xVar 15) aNil)) (aCons (xTup aNil) aNil))))) aNil)) (xTup (aCons (xVar 15) aNil))) aNil)))) aNil))))))))))))))))))))))))))
noncomputable def b_f_law (cs : Fn → Fd) : SX :=
  (sSeq (sSet 1 (xShare (opC 2 (cs .f_law_stream) (aCons (xVar 0) (aCons (xC (.int 0)) aNil)))))
  (sSeq (sFor (iRg1 (xC (.int 12))) (gNm 2) (sSeq (sSet 3 (xIf (xTest (op2 gGt (xVar 2) (xC (.int 0)))) (opC 2 (cs .f_law_draw) (aCons (xVar 1) (aCons (xC (.int 21)) aNil))) (op2 gMod (opN (g1 gLen) (aCons (xVar 0) aNil)) (xC (.int 21)))))
  (sFor (iE itemsS (xTup (aCons (xC (.int 0)) (aCons (xC (.int 1)) aNil)))) (gNm 4) (sSeq (sSet 5 (opC 2 (cs .f_law_sized) (aCons (xVar 3) (aCons (xVar 4) aNil))))
  (sSeq (sIf (xTest (op2 gNe (xGc (xTold (cs .f_law_read) nmF (opC 1 (cs .f_is_whole) (aCons (xVar 5) aNil)))) (xTup (aCons (xC (.int 0)) (aCons (op2 gEq (xVar 4) (xC (.int 0))) aNil))))) (sRet (xC (.bl false))) sNil)
  (sSeq (sSet 6 (xGc (xTold (cs .f_law_read) nmF (opC 1 (cs .f_write) (aCons (xVar 5) aNil)))))
  (sIf (xOr (xTest (op2 gNe (op2 gEq (op2 gIx (xVar 6) (xC (.int 0))) (xC (.int 0))) (op2 gEq (xVar 4) (xC (.int 0))))) (xAnd (xTest (op2 gEq (xVar 4) (xC (.int 1)))) (xTest (op2 gNe (xVar 6) (xTup (aCons (xC (.int 1)) (aCons (xC (.str "program")) aNil))))))) (sRet (xC (.bl false))) sNil)))))))
  (sRet (xC (.bl true)))))

noncomputable def bdOf : Fn → (Fn → Fd) → SX
  | .f_is_int, cs => b_f_is_int cs
  | .f_is_number, cs => b_f_is_number cs
  | .f_is_name, cs => b_f_is_name cs
  | .f_is_there, cs => b_f_is_there cs
  | .f_expression_parts, cs => b_f_expression_parts cs
  | .f_condition_parts, cs => b_f_condition_parts cs
  | .f_is_expression, cs => b_f_is_expression cs
  | .f_is_condition, cs => b_f_is_condition cs
  | .f_is_type, cs => b_f_is_type cs
  | .f_divisions, cs => b_f_divisions cs
  | .f_ends, cs => b_f_ends cs
  | .f_statements_in, cs => b_f_statements_in cs
  | .f_block_fits, cs => b_f_block_fits cs
  | .f_head_of, cs => b_f_head_of cs
  | .f_head_fits, cs => b_f_head_fits cs
  | .f_call_fits, cs => b_f_call_fits cs
  | .f_statement_fits, cs => b_f_statement_fits cs
  | .f_names_fit, cs => b_f_names_fit cs
  | .f_function_fits, cs => b_f_function_fits cs
  | .f_is_whole, cs => b_f_is_whole cs
  | .f_whole, cs => b_f_whole cs
  | .f_tight, cs => b_f_tight cs
  | .f_expression, cs => b_f_expression cs
  | .f_held, cs => b_f_held cs
  | .f_condition, cs => b_f_condition cs
  | .f_type_text, cs => b_f_type_text cs
  | .f_call_text, cs => b_f_call_text cs
  | .f_statement, cs => b_f_statement cs
  | .f_block_rows, cs => b_f_block_rows cs
  | .f_head, cs => b_f_head cs
  | .f_write, cs => b_f_write cs
  | .f_law_cell, cs => b_f_law_cell cs
  | .f_law_stream, cs => b_f_law_stream cs
  | .f_law_draw, cs => b_f_law_draw cs
  | .f_law_read, cs => b_f_law_read cs
  | .f_law_told, cs => fun _ _ => none
  | .f_law_f, cs => b_f_law_f cs
  | .f_law_chain, cs => b_f_law_chain cs
  | .f_law_sized, cs => b_f_law_sized cs
  | .f_law, cs => b_f_law cs
noncomputable def run : Nat → Fn → Fd
  | 0 => fun _ _ _ => none
  | k + 1 => fun f => denF (psOf f).length (locOf f).length (bdOf f (run k))
end Sk25
set_option Elab.async false
set_option linter.all false
set_option maxRecDepth 100000
set_option maxHeartbeats 4000000
namespace Sk25
open PySem Sh
theorem r_f_law_cell (n : Nat) (r0 r1 : R) (h : Hs) : run (n + 1) .f_law_cell [r0, r1] h = fnRes (b_f_law_cell (run n) [slA r0, slA r1] h) := rfl
theorem r_f_law_stream (n : Nat) (r0 r1 : R) (h : Hs) : run (n + 1) .f_law_stream [r0, r1] h = fnRes (b_f_law_stream (run n) [slA r0, slA r1] h) := rfl
theorem r_f_law_draw (n : Nat) (r0 r1 : R) (h : Hs) : run (n + 1) .f_law_draw [r0, r1] h = fnRes (b_f_law_draw (run n) [slA r0, slA r1, .none] h) := rfl
theorem r_f_law (n : Nat) (r0 : R) (h : Hs) : run (n + 1) .f_law [r0] h = fnRes (b_f_law (run n) [slA r0, .none, .none, .none, .none, .none, .none] h) := rfl
/-! ### evaluation -/
section
variable {α β : Type}
theorem at_ok (a : α) (h : Hs) (k : α → Hs → Option (Rs β)) : andThen (some (.ok a h)) k = k a h := rfl
theorem at_exc (c : Str) (h : Hs) (k : α → Hs → Option (Rs β)) : andThen (some (.exc c h)) k = some (.exc c h) := rfl
theorem ts_ok (S : Env') (a : α) (h : Hs) (k : α → Hs → Option Out) : thenS S (some (.ok a h)) k = k a h := rfl
theorem ts_exc (S : Env') (c : Str) (h : Hs) (k : α → Hs → Option Out) : thenS S (some (.exc c h)) k = some (.exc c S h) := rfl
end
theorem gSub_e (i j : Int) (h : Hs) : gSub (.d (.int i)) (.d (.int j)) h = some (.d (.int (i - j))) := rfl
theorem gLt_e (i j : Int) (h : Hs) : gLt (.d (.int i)) (.d (.int j)) h = some (.d (.bl (decide (i < j)))) := rfl
theorem gLe_e (i j : Int) (h : Hs) : gLe (.d (.int i)) (.d (.int j)) h = some (.d (.bl (decide (i ≤ j)))) := rfl
theorem gGt_e (i j : Int) (h : Hs) : gGt (.d (.int i)) (.d (.int j)) h = some (.d (.bl (decide (j < i)))) := rfl
theorem gGe_e (i j : Int) (h : Hs) : gGe (.d (.int i)) (.d (.int j)) h = some (.d (.bl (decide (j ≤ i)))) := rfl
theorem gDiv_e {i j : Int} {h : Hs} (h1 : 0 < j) (h2 : j < 1073741824) : gDiv (.d (.int i)) (.d (.int j)) h = some (.d (.int (i / j))) := by
  show Option.map R.d (if L2.CDiv i j then some (D.int (i / j)) else none) = _
  rw [if_pos (show L2.CDiv i j from ⟨h1, h2⟩)] <;> rfl
theorem gMod_e {i j : Int} {h : Hs} (h1 : 0 < j) : gMod (.d (.int i)) (.d (.int j)) h = some (.d (.int (i % j))) := by
  show Option.map R.d (if 0 < j then some (D.int (i % j)) else none) = _
  rw [if_pos h1] <;> rfl
theorem gMul_l {i j : Int} {h : Hs} (h1 : -18446744073709551616 < i) (h2 : i < 18446744073709551616) : gMul (.d (.int i)) (.d (.int j)) h = some (.d (.int (i * j))) := if_pos (show L2.CMul i j from .inl ⟨h1, h2⟩)
theorem gMul_r {i j : Int} {h : Hs} (h1 : -18446744073709551616 < j) (h2 : j < 18446744073709551616) : gMul (.d (.int i)) (.d (.int j)) h = some (.d (.int (i * j))) := if_pos (show L2.CMul i j from .inr ⟨h1, h2⟩)
theorem gLen_tup (xs : List D) (h : Hs) : gLen (.d (.tup xs)) h = some (.d (.int xs.length)) := rfl
theorem gLen_bor (xs : List D) (h : Hs) : gLen (.bor (.lst xs)) h = some (.d (.int xs.length)) := rfl
theorem gLen_bz (xs : List D) (h : Hs) : gLen (.bor (.fz xs)) h = some (.d (.int xs.length)) := rfl
theorem gLen_new (xs : List D) (h : Hs) : gLen (.new (.lst xs)) h = some (.d (.int xs.length)) := rfl
theorem atI_nat {α : Type} (xs : List α) (j : Nat) : L2.atI xs (j : Int) = xs[j]? := by
  unfold L2.atI L2.ixN
  rw [if_pos (Int.natCast_nonneg j)]
  by_cases hj : j < xs.length
  · rw [if_pos (by omega)]; rfl
  · rw [if_neg (by omega), List.getElem?_eq_none (by omega)]; rfl
theorem gIx_tup (xs : List D) (j : Nat) (h : Hs) : gIx (.d (.tup xs)) (.d (.int (j : Int))) h = (xs[j]?).map R.d := by
  show (L2.atI xs (j : Int)).map R.d = _
  rw [atI_nat]
theorem gIx_bor (xs : List D) (j : Nat) (h : Hs) : gIx (.bor (.lst xs)) (.d (.int (j : Int))) h = (xs[j]?).map R.d := by
  show (L2.atI xs (j : Int)).map R.d = _
  rw [atI_nat]
theorem gIx_bz (xs : List D) (j : Nat) (h : Hs) : gIx (.bor (.fz xs)) (.d (.int (j : Int))) h = (xs[j]?).map R.d := by
  show (L2.atI xs (j : Int)).map R.d = _
  rw [atI_nat]
theorem eqR_of {a b : R} {h : Hs} {x y : PyData} (ha : pyR a h = some x) (hb : pyR b h = some y) (sx : SeqAt.shaped x = true) (sy : SeqAt.shaped y = true) : eqR a b h = some (PyData.eqv x y) := by
  unfold eqR
  rw [ha, hb]
  exact if_pos ⟨sx, sy⟩
theorem gEq_of {a b : R} {h : Hs} {x y : PyData} (ha : pyR a h = some x) (hb : pyR b h = some y) (sx : SeqAt.shaped x = true) (sy : SeqAt.shaped y = true) : gEq a b h = some (.d (.bl (PyData.eqv x y))) := by
  unfold gEq
  rw [eqR_of ha hb sx sy] <;> rfl
theorem gNe_of {a b : R} {h : Hs} {x y : PyData} (ha : pyR a h = some x) (hb : pyR b h = some y) (sx : SeqAt.shaped x = true) (sy : SeqAt.shaped y = true) : gNe a b h = some (.d (.bl (!PyData.eqv x y))) := by
  unfold gNe
  rw [eqR_of ha hb sx sy] <;> rfl
theorem shaped_int (i : Int) : SeqAt.shaped (.int i) = true := by simp [SeqAt.shaped, PyData.canLay0, PyData.depth]
theorem pyR_int (i : Int) (h : Hs) : pyR (.d (.int i)) h = some (.int i) := by simp only [pyR, pyD]
theorem gEq_int (i j : Int) (h : Hs) : gEq (.d (.int i)) (.d (.int j)) h = some (.d (.bl (decide (i = j)))) := by
  rw [gEq_of (pyR_int i h) (pyR_int j h) (shaped_int i) (shaped_int j), PyData.eqv]
  rfl
theorem gNe_int (i j : Int) (h : Hs) : gNe (.d (.int i)) (.d (.int j)) h = some (.d (.bl (!decide (i = j)))) := by
  rw [gNe_of (pyR_int i h) (pyR_int j h) (shaped_int i) (shaped_int j), PyData.eqv]
  rfl
theorem isi_tt (xs : List D) (h : Hs) : gIsi (.d (.tup xs)) (.d (.ty "tuple")) h = some (.d (.bl true)) := by
  show Option.map (fun k => R.d (D.bl k)) (L2.kitB "tuple" "tuple") = _
  rw [show L2.kitB "tuple" "tuple" = some true from by decide +kernel] <;> rfl
theorem isi_ts (xs : List D) (h : Hs) : gIsi (.d (.tup xs)) (.d (.ty "str")) h = some (.d (.bl false)) := by
  show Option.map (fun k => R.d (D.bl k)) (L2.kitB "tuple" "str") = _
  rw [show L2.kitB "tuple" "str" = some false from by decide +kernel] <;> rfl
theorem isi_ti (xs : List D) (h : Hs) : gIsi (.d (.tup xs)) (.d (.ty "int")) h = some (.d (.bl false)) := by
  show Option.map (fun k => R.d (D.bl k)) (L2.kitB "tuple" "int") = _
  rw [show L2.kitB "tuple" "int" = some false from by decide +kernel] <;> rfl
theorem isi_st (z : Str) (h : Hs) : gIsi (.d (.str z)) (.d (.ty "tuple")) h = some (.d (.bl false)) := by
  show Option.map (fun k => R.d (D.bl k)) (L2.kitB "str" "tuple") = _
  rw [show L2.kitB "str" "tuple" = some false from by decide +kernel] <;> rfl
theorem isi_ss (z : Str) (h : Hs) : gIsi (.d (.str z)) (.d (.ty "str")) h = some (.d (.bl true)) := by
  show Option.map (fun k => R.d (D.bl k)) (L2.kitB "str" "str") = _
  rw [show L2.kitB "str" "str" = some true from by decide +kernel] <;> rfl
theorem isi_si (z : Str) (h : Hs) : gIsi (.d (.str z)) (.d (.ty "int")) h = some (.d (.bl false)) := by
  show Option.map (fun k => R.d (D.bl k)) (L2.kitB "str" "int") = _
  rw [show L2.kitB "str" "int" = some false from by decide +kernel] <;> rfl
theorem isi_it (i : Int) (h : Hs) : gIsi (.d (.int i)) (.d (.ty "tuple")) h = some (.d (.bl false)) := by
  show Option.map (fun k => R.d (D.bl k)) (L2.kitB "int" "tuple") = _
  rw [show L2.kitB "int" "tuple" = some false from by decide +kernel] <;> rfl
theorem isi_is (i : Int) (h : Hs) : gIsi (.d (.int i)) (.d (.ty "str")) h = some (.d (.bl false)) := by
  show Option.map (fun k => R.d (D.bl k)) (L2.kitB "int" "str") = _
  rw [show L2.kitB "int" "str" = some false from by decide +kernel] <;> rfl
theorem isi_ii (i : Int) (h : Hs) : gIsi (.d (.int i)) (.d (.ty "int")) h = some (.d (.bl true)) := by
  show Option.map (fun k => R.d (D.bl k)) (L2.kitB "int" "int") = _
  rw [show L2.kitB "int" "int" = some true from by decide +kernel] <;> rfl
theorem kS : (0 : Nat) = 0 := rfl
theorem szl : sizeLine = 16777216 := by decide
theorem ty_int (i : Int) (h : Hs) : tyR (.d (.int i)) h = some "int" := rfl
theorem ty_str (z : Str) (h : Hs) : tyR (.d (.str z)) h = some "str" := rfl
theorem ty_tup (xs : List D) (h : Hs) : tyR (.d (.tup xs)) h = some "tuple" := rfl
theorem ty_bl (b : Bool) (h : Hs) : tyR (.d (.bl b)) h = some "bool" := rfl
theorem ty_non (h : Hs) : tyR (.d .non) h = some "NoneType" := rfl
theorem sSeq_nx {f g : SX} {S S' : Env'} {h h' : Hs} (e : f S h = some (.nx S' h')) : sSeq f g S h = g S' h' := by unfold sSeq; rw [e]
theorem sSeq_ret {f g : SX} {S : Env'} {h h' : Hs} {r : R} (e : f S h = some (.ret r h')) : sSeq f g S h = some (.ret r h') := by unfold sSeq; rw [e]
theorem sSeq_exc {f g : SX} {S S' : Env'} {h h' : Hs} {c : Str} (e : f S h = some (.exc c S' h')) : sSeq f g S h = some (.exc c S' h') := by unfold sSeq; rw [e]
abbrev I (row : List Int) : List D := row.map D.int
theorem gMulB_r {i j : Int} {h : Hs} (h1 : -18446744073709551616 < j) (h2 : j < 18446744073709551616) : gMulB (.d (.int i)) (.d (.int j)) h = some (.d (.int (i * j)))  := gMul_r (i := i) (j := j) (h := h) h1 h2
/-! ### the script -/
theorem ev_cell (n : Nat) (ns : List Int) (c : Cn) (hc : c = .lst (I ns) ∨ c = .fz (I ns)) (h : Hs) : ∃ v : Int, run (n + 1) .f_law_cell [.bor c, .d (.int 0)] h = some (.ok (.d (.int v)) h) := by
  cases ns with
  | nil =>
    refine ⟨0, ?_⟩
    rw [r_f_law_cell]
    unfold b_f_law_cell
    rcases hc with rfl | rfl <;> simp only [I, List.map_nil, show ¬ ((0 : Int) < ((0 : Nat) : Int)) from by decide, szl, Nat.reduceLeDiff, Int.reduceLT, Int.reduceLE, Int.reduceNeg, List.length_map, List.length_append, List.nil_append, List.cons_append, at_ok, at_exc, ts_ok, ts_exc, sSeq, sSet, sRet, sRetV, sIf, sNil, sRaise, sAug, sAppOwn, sExt, sAsg, sAsg2, sPar2, sPar3, sBrk, sFor, sSetIx, sTry, calmS, slOf, slA, retOk, fnRes, gIAdd, gICat, xVar, xC, xIf, xTest, xTru, xAnd, xOr, xNot, xAndV, xOrV, xChain, xTup, xLst, xSl, oSome, oNone, op1, op2, opN, opM1, opC, aCons, aNil, lift, g1, g2, dAll, gAdd, gLen_tup, gLen_bor, gLen_new, gLen_bz, wipeS, gIx_tup, gIx_bor, gIx_bz, kS, gEq_int, gNe_int, isi_tt, isi_ts, isi_ti, isi_st, isi_ss, isi_si, isi_it, isi_is, isi_ii, gSub_e, gDiv_e, gMod_e, gLt_e, gLe_e, gGt_e, gGe_e, gNeg, gIs, gIsNot, idR, gInt, gAbs, gTy, ty_int, ty_str, ty_tup, ty_bl, ty_non, intOf, strOf, tupOf, lstOf, seqOf, dctOf, truR, truD, truC, gNm, gNilD, gConsD, gTupD, itemsE, itemsS, itemsV, iE, iV, iRg1, iRevEn, iVs, seqV, seqE, List.getElem?_cons_zero, List.getElem?_cons_succ, List.set_cons_zero, List.set_cons_succ, List.length_cons, List.length_nil, Option.map_some, Option.map_none, if_true, decide_true, decide_false, Bool.false_eq_true, if_false, ite_true, ite_false, reduceIte, Nat.reduceAdd, reduceCtorEq, Bool.not_true, Bool.not_false]
  | cons v ns =>
    refine ⟨v, ?_⟩
    have e1 : ∀ h : Hs, gIx (.bor (.lst (D.int v :: ns.map D.int))) (.d (.int 0)) h = some (.d (.int v)) := fun h => gIx_bor _ 0 h
    have e2 : ∀ h : Hs, gIx (.bor (.fz (D.int v :: ns.map D.int))) (.d (.int 0)) h = some (.d (.int v)) := fun h => gIx_bz _ 0 h
    rw [r_f_law_cell]
    unfold b_f_law_cell
    rcases hc with rfl | rfl <;> simp only [I, List.map_cons, show ((0 : Int) < ((ns.length + 1 : Nat) : Int)) from by omega, e1, e2, szl, Nat.reduceLeDiff, Int.reduceLT, Int.reduceLE, Int.reduceNeg, List.length_map, List.length_append, List.nil_append, List.cons_append, at_ok, at_exc, ts_ok, ts_exc, sSeq, sSet, sRet, sRetV, sIf, sNil, sRaise, sAug, sAppOwn, sExt, sAsg, sAsg2, sPar2, sPar3, sBrk, sFor, sSetIx, sTry, calmS, slOf, slA, retOk, fnRes, gIAdd, gICat, xVar, xC, xIf, xTest, xTru, xAnd, xOr, xNot, xAndV, xOrV, xChain, xTup, xLst, xSl, oSome, oNone, op1, op2, opN, opM1, opC, aCons, aNil, lift, g1, g2, dAll, gAdd, gLen_tup, gLen_bor, gLen_new, gLen_bz, wipeS, gIx_tup, gIx_bor, gIx_bz, kS, gEq_int, gNe_int, isi_tt, isi_ts, isi_ti, isi_st, isi_ss, isi_si, isi_it, isi_is, isi_ii, gSub_e, gDiv_e, gMod_e, gLt_e, gLe_e, gGt_e, gGe_e, gNeg, gIs, gIsNot, idR, gInt, gAbs, gTy, ty_int, ty_str, ty_tup, ty_bl, ty_non, intOf, strOf, tupOf, lstOf, seqOf, dctOf, truR, truD, truC, gNm, gNilD, gConsD, gTupD, itemsE, itemsS, itemsV, iE, iV, iRg1, iRevEn, iVs, seqV, seqE, List.getElem?_cons_zero, List.getElem?_cons_succ, List.set_cons_zero, List.set_cons_succ, List.length_cons, List.length_nil, Option.map_some, Option.map_none, if_true, decide_true, decide_false, Bool.false_eq_true, if_false, ite_true, ite_false, reduceIte, Nat.reduceAdd, reduceCtorEq, Bool.not_true, Bool.not_false]
/-- the box -/
def B (a b : Int) : Hs := [.lst [.int a, .int b]]
theorem ev_stream (n : Nat) (ns : List Int) (c : Cn) (hc : c = .lst (I ns) ∨ c = .fz (I ns)) (h : Hs) : ∃ a b : Int, run (n + 2) .f_law_stream [.bor c, .d (.int 0)] h = some (.ok (.new (.lst [.int a, .int b])) h) := by
  obtain ⟨v, e⟩ := ev_cell n ns c hc h
  refine ⟨if v < 0 then -v else v, (if v < 0 then -v else v) % 1000003 + 7, ?_⟩
  rw [r_f_law_stream]
  unfold b_f_law_stream
  simp only [e, szl, Nat.reduceLeDiff, Int.reduceLT, Int.reduceLE, Int.reduceNeg, List.length_map, List.length_append, List.nil_append, List.cons_append, at_ok, at_exc, ts_ok, ts_exc, sSeq, sSet, sRet, sRetV, sIf, sNil, sRaise, sAug, sAppOwn, sExt, sAsg, sAsg2, sPar2, sPar3, sBrk, sFor, sSetIx, sTry, calmS, slOf, slA, retOk, fnRes, gIAdd, gICat, xVar, xC, xIf, xTest, xTru, xAnd, xOr, xNot, xAndV, xOrV, xChain, xTup, xLst, xSl, oSome, oNone, op1, op2, opN, opM1, opC, aCons, aNil, lift, g1, g2, dAll, gAdd, gLen_tup, gLen_bor, gLen_new, gLen_bz, wipeS, gIx_tup, gIx_bor, gIx_bz, kS, gEq_int, gNe_int, isi_tt, isi_ts, isi_ti, isi_st, isi_ss, isi_si, isi_it, isi_is, isi_ii, gSub_e, gDiv_e, gMod_e, gLt_e, gLe_e, gGt_e, gGe_e, gNeg, gIs, gIsNot, idR, gInt, gAbs, gTy, ty_int, ty_str, ty_tup, ty_bl, ty_non, intOf, strOf, tupOf, lstOf, seqOf, dctOf, truR, truD, truC, gNm, gNilD, gConsD, gTupD, itemsE, itemsS, itemsV, iE, iV, iRg1, iRevEn, iVs, seqV, seqE, List.getElem?_cons_zero, List.getElem?_cons_succ, List.set_cons_zero, List.set_cons_succ, List.length_cons, List.length_nil, Option.map_some, Option.map_none, if_true, decide_true, decide_false, Bool.false_eq_true, if_false, ite_true, ite_false, reduceIte, Nat.reduceAdd, reduceCtorEq, Bool.not_true, Bool.not_false]
theorem box0 (a b : Int) : gIx (.d (.ref 0)) (.d (.int 0)) (B a b) = some (.d (.int a)) := rfl
theorem box1 (a b : Int) : gIx (.d (.ref 0)) (.d (.int 1)) (B a b) = some (.d (.int b)) := rfl
theorem boxG (a b : Int) : (B a b)[0]? = some (.lst [.int a, .int b]) := rfl
theorem boxS0 (a b x : Int) : setO (.lst [.int a, .int b]) (.int 0) (.int x) = some (.lst [.int x, .int b]) := rfl
theorem boxS1 (a b x : Int) : setO (.lst [.int a, .int b]) (.int 1) (.int x) = some (.lst [.int a, .int x]) := rfl
theorem boxP (a b x y : Int) : (B a b).set 0 (.lst [.int x, .int y]) = B x y := rfl
theorem ev_draw (n : Nat) (a b m : Int) (h1 : 0 < m) (h2 : m < 1073741824) : ∃ (v : Nat) (a' b' : Int), run (n + 1) .f_law_draw [.d (.ref 0), .d (.int m)] (B a b) = some (.ok (.d (.int (v : Int))) (B a' b')) ∧ (v : Int) < m := by
  rw [r_f_law_draw]
  unfold b_f_law_draw
  by_cases ha : 0 < a
  · refine ⟨(a % m).toNat, a / m, b, ?_, ?_⟩
    · have e : (((a % m).toNat : Nat) : Int) = a % m := Int.toNat_of_nonneg (Int.emod_nonneg a (by omega))
      rw [e]
      simp only [box0, ha, gMod_e h1, gDiv_e h1 h2, boxG, boxS0, boxP, szl, Nat.reduceLeDiff, Int.reduceLT, Int.reduceLE, Int.reduceNeg, List.length_map, List.length_append, List.nil_append, List.cons_append, at_ok, at_exc, ts_ok, ts_exc, sSeq, sSet, sRet, sRetV, sIf, sNil, sRaise, sAug, sAppOwn, sExt, sAsg, sAsg2, sPar2, sPar3, sBrk, sFor, sSetIx, sTry, calmS, slOf, slA, retOk, fnRes, gIAdd, gICat, xVar, xC, xIf, xTest, xTru, xAnd, xOr, xNot, xAndV, xOrV, xChain, xTup, xLst, xSl, oSome, oNone, op1, op2, opN, opM1, opC, aCons, aNil, lift, g1, g2, dAll, gAdd, gLen_tup, gLen_bor, gLen_new, gLen_bz, wipeS, gIx_tup, gIx_bor, gIx_bz, kS, gEq_int, gNe_int, isi_tt, isi_ts, isi_ti, isi_st, isi_ss, isi_si, isi_it, isi_is, isi_ii, gSub_e, gDiv_e, gMod_e, gLt_e, gLe_e, gGt_e, gGe_e, gNeg, gIs, gIsNot, idR, gInt, gAbs, gTy, ty_int, ty_str, ty_tup, ty_bl, ty_non, intOf, strOf, tupOf, lstOf, seqOf, dctOf, truR, truD, truC, gNm, gNilD, gConsD, gTupD, itemsE, itemsS, itemsV, iE, iV, iRg1, iRevEn, iVs, seqV, seqE, List.getElem?_cons_zero, List.getElem?_cons_succ, List.set_cons_zero, List.set_cons_succ, List.length_cons, List.length_nil, Option.map_some, Option.map_none, if_true, decide_true, decide_false, Bool.false_eq_true, if_false, ite_true, ite_false, reduceIte, Nat.reduceAdd, reduceCtorEq, Bool.not_true, Bool.not_false]
    · have := Int.emod_lt_of_pos a h1
      have := Int.emod_nonneg a (show m ≠ 0 by omega)
      omega
  · refine ⟨(((b * 48271 + 12345) % 2147483647 / 64) % m).toNat, a, (b * 48271 + 12345) % 2147483647, ?_, ?_⟩
    · have e : (((((b * 48271 + 12345) % 2147483647 / 64) % m).toNat : Nat) : Int) = ((b * 48271 + 12345) % 2147483647 / 64) % m := Int.toNat_of_nonneg (Int.emod_nonneg _ (by omega))
      rw [e]
      simp only [box0, box1, ha, gMod_e h1, boxG, boxS1, boxP, gMulB_r, szl, Nat.reduceLeDiff, Int.reduceLT, Int.reduceLE, Int.reduceNeg, List.length_map, List.length_append, List.nil_append, List.cons_append, at_ok, at_exc, ts_ok, ts_exc, sSeq, sSet, sRet, sRetV, sIf, sNil, sRaise, sAug, sAppOwn, sExt, sAsg, sAsg2, sPar2, sPar3, sBrk, sFor, sSetIx, sTry, calmS, slOf, slA, retOk, fnRes, gIAdd, gICat, xVar, xC, xIf, xTest, xTru, xAnd, xOr, xNot, xAndV, xOrV, xChain, xTup, xLst, xSl, oSome, oNone, op1, op2, opN, opM1, opC, aCons, aNil, lift, g1, g2, dAll, gAdd, gLen_tup, gLen_bor, gLen_new, gLen_bz, wipeS, gIx_tup, gIx_bor, gIx_bz, kS, gEq_int, gNe_int, isi_tt, isi_ts, isi_ti, isi_st, isi_ss, isi_si, isi_it, isi_is, isi_ii, gSub_e, gDiv_e, gMod_e, gLt_e, gLe_e, gGt_e, gGe_e, gNeg, gIs, gIsNot, idR, gInt, gAbs, gTy, ty_int, ty_str, ty_tup, ty_bl, ty_non, intOf, strOf, tupOf, lstOf, seqOf, dctOf, truR, truD, truC, gNm, gNilD, gConsD, gTupD, itemsE, itemsS, itemsV, iE, iV, iRg1, iRevEn, iVs, seqV, seqE, List.getElem?_cons_zero, List.getElem?_cons_succ, List.set_cons_zero, List.set_cons_succ, List.length_cons, List.length_nil, Option.map_some, Option.map_none, if_true, decide_true, decide_false, Bool.false_eq_true, if_false, ite_true, ite_false, reduceIte, Nat.reduceAdd, reduceCtorEq, Bool.not_true, Bool.not_false]
    · have := Int.emod_lt_of_pos ((b * 48271 + 12345) % 2147483647 / 64) h1
      have := Int.emod_nonneg ((b * 48271 + 12345) % 2147483647 / 64) (show m ≠ 0 by omega)
      omega
end Sk25
set_option Elab.async false
set_option linter.all false
set_option maxRecDepth 100000
set_option maxHeartbeats 0
namespace Sk25
open PySem Sh
def INNER (cs : Fn → Fd) : SX := (sFor (iE itemsS (xTup (aCons (xC (.int 0)) (aCons (xC (.int 1)) aNil)))) (gNm 4) (sSeq (sSet 5 (opC 2 (cs .f_law_sized) (aCons (xVar 3) (aCons (xVar 4) aNil))))
  (sSeq (sIf (xTest (op2 gNe (xGc (xTold (cs .f_law_read) nmF (opC 1 (cs .f_is_whole) (aCons (xVar 5) aNil)))) (xTup (aCons (xC (.int 0)) (aCons (op2 gEq (xVar 4) (xC (.int 0))) aNil))))) (sRet (xC (.bl false))) sNil)
  (sSeq (sSet 6 (xGc (xTold (cs .f_law_read) nmF (opC 1 (cs .f_write) (aCons (xVar 5) aNil)))))
  (sIf (xOr (xTest (op2 gNe (op2 gEq (op2 gIx (xVar 6) (xC (.int 0))) (xC (.int 0))) (op2 gEq (xVar 4) (xC (.int 0))))) (xAnd (xTest (op2 gEq (xVar 4) (xC (.int 1)))) (xTest (op2 gNe (xVar 6) (xTup (aCons (xC (.int 1)) (aCons (xC (.str "program")) aNil))))))) (sRet (xC (.bl false))) sNil)))))
def PICK (cs : Fn → Fd) : SX := (sSet 3 (xIf (xTest (op2 gGt (xVar 2) (xC (.int 0)))) (opC 2 (cs .f_law_draw) (aCons (xVar 1) (aCons (xC (.int 21)) aNil))) (op2 gMod (opN (g1 gLen) (aCons (xVar 0) aNil)) (xC (.int 21)))))
def gS (i : Nat) : Option Out → Sl
  | some (.nx S _) => (S[i]?).getD .none
  | _ => .none
def Inn (v : Int) : Prop := ∀ (s0 s2 x4 x5 x6 : Sl) (a b : Int), ∃ x4' x5' x6', INNER (run 27) [s0, .d (.ref 0), s2, .d (.int v), x4, x5, x6] (B a b) = some (.nx [s0, .d (.ref 0), s2, .d (.int v), x4', x5', x6'] (B a b))
/-- by the kernel -/
def InnE (v : Int) : Prop := ∀ (s0 s2 x4 x5 x6 : Sl) (a b : Int), INNER (run 27) [s0, .d (.ref 0), s2, .d (.int v), x4, x5, x6] (B a b) = some (.nx [s0, .d (.ref 0), s2, .d (.int v), gS 4 (INNER (run 27) [s0, .d (.ref 0), s2, .d (.int v), x4, x5, x6] (B a b)), gS 5 (INNER (run 27) [s0, .d (.ref 0), s2, .d (.int v), x4, x5, x6] (B a b)), gS 6 (INNER (run 27) [s0, .d (.ref 0), s2, .d (.int v), x4, x5, x6] (B a b))] (B a b))
theorem inn_of {v : Int} (h : InnE v) : Inn v := fun s0 s2 x4 x5 x6 a b => ⟨_, _, _, h s0 s2 x4 x5 x6 a b⟩
end Sk25
set_option Elab.async false
set_option linter.all false
set_option maxRecDepth 1000000
set_option maxHeartbeats 0
namespace Sk25
open PySem Sh
theorem inn_0 : InnE 0 := fun s0 s2 x4 x5 x6 a b => by kernel_rfl
theorem inn_1 : InnE 1 := fun s0 s2 x4 x5 x6 a b => by kernel_rfl
theorem inn_2 : InnE 2 := fun s0 s2 x4 x5 x6 a b => by kernel_rfl
theorem inn_3 : InnE 3 := fun s0 s2 x4 x5 x6 a b => by kernel_rfl
theorem inn_4 : InnE 4 := fun s0 s2 x4 x5 x6 a b => by kernel_rfl
theorem inn_5 : InnE 5 := fun s0 s2 x4 x5 x6 a b => by kernel_rfl
theorem inn_6 : InnE 6 := fun s0 s2 x4 x5 x6 a b => by kernel_rfl
theorem inn_7 : InnE 7 := fun s0 s2 x4 x5 x6 a b => by kernel_rfl
theorem inn_8 : InnE 8 := fun s0 s2 x4 x5 x6 a b => by kernel_rfl
theorem inn_9 : InnE 9 := fun s0 s2 x4 x5 x6 a b => by kernel_rfl
theorem inn_10 : InnE 10 := fun s0 s2 x4 x5 x6 a b => by kernel_rfl
theorem inn_11 : InnE 11 := fun s0 s2 x4 x5 x6 a b => by kernel_rfl
theorem inn_12 : InnE 12 := fun s0 s2 x4 x5 x6 a b => by kernel_rfl
theorem inn_13 : InnE 13 := fun s0 s2 x4 x5 x6 a b => by kernel_rfl
theorem inn_14 : InnE 14 := fun s0 s2 x4 x5 x6 a b => by kernel_rfl
theorem inn_15 : InnE 15 := fun s0 s2 x4 x5 x6 a b => by kernel_rfl
theorem inn_16 : InnE 16 := fun s0 s2 x4 x5 x6 a b => by kernel_rfl
theorem inn_17 : InnE 17 := fun s0 s2 x4 x5 x6 a b => by kernel_rfl
theorem inn_18 : InnE 18 := fun s0 s2 x4 x5 x6 a b => by kernel_rfl
theorem inn_19 : InnE 19 := fun s0 s2 x4 x5 x6 a b => by kernel_rfl
theorem inn_20 : InnE 20 := fun s0 s2 x4 x5 x6 a b => by kernel_rfl
theorem inn (v : Nat) (hv : v < 21) : Inn (v : Int) := by
  match v, hv with
  | 0, _ => exact inn_of inn_0
  | 1, _ => exact inn_of inn_1
  | 2, _ => exact inn_of inn_2
  | 3, _ => exact inn_of inn_3
  | 4, _ => exact inn_of inn_4
  | 5, _ => exact inn_of inn_5
  | 6, _ => exact inn_of inn_6
  | 7, _ => exact inn_of inn_7
  | 8, _ => exact inn_of inn_8
  | 9, _ => exact inn_of inn_9
  | 10, _ => exact inn_of inn_10
  | 11, _ => exact inn_of inn_11
  | 12, _ => exact inn_of inn_12
  | 13, _ => exact inn_of inn_13
  | 14, _ => exact inn_of inn_14
  | 15, _ => exact inn_of inn_15
  | 16, _ => exact inn_of inn_16
  | 17, _ => exact inn_of inn_17
  | 18, _ => exact inn_of inn_18
  | 19, _ => exact inn_of inn_19
  | 20, _ => exact inn_of inn_20
  | n + 21, h => omega
end Sk25
set_option Elab.async false
set_option linter.all false
set_option maxRecDepth 100000
set_option maxHeartbeats 4000000
namespace Sk25
open PySem Sh
theorem forL_step {g : TGx} {f : SX} {d : D} {ds : List D} {S S1 S2 : Env'} {h h2 : Hs} (hg : g d S = some S1) (hf : f S1 h = some (.nx S2 h2)) : forL g f (d :: ds) S h = forL g f ds S2 h2 := by
  show (match g d S with
    | none => none
    | some S1 => match f S1 h with
      | some (.nx S2 h2) => forL g f ds S2 h2
      | some (.ct S2 h2) => forL g f ds S2 h2
      | some (.brk S2 h2) => some (.nx S2 h2)
      | x => x) = _
  rw [hg]
  simp only [hf]
noncomputable def BODY : SX := sSeq (PICK (run 27)) (INNER (run 27))
theorem step_ok (ns : List Int) (c : Cn) (hc : c = .lst (I ns) ∨ c = .fz (I ns)) (j : Nat) (a b : Int) (x3 x4 x5 x6 : Sl) : ∃ x3' x4' x5' x6' a' b', BODY [.bor c, .d (.ref 0), .d (.int (j : Nat)), x3, x4, x5, x6] (B a b) = some (.nx [.bor c, .d (.ref 0), .d (.int (j : Nat)), x3', x4', x5', x6'] (B a' b')) := by
  have hp : ∃ (v : Nat) (a' b' : Int), PICK (run 27) [.bor c, .d (.ref 0), .d (.int (j : Nat)), x3, x4, x5, x6] (B a b) = some (.nx [.bor c, .d (.ref 0), .d (.int (j : Nat)), .d (.int (v : Int)), x4, x5, x6] (B a' b')) ∧ v < 21 := by
    unfold PICK
    by_cases hj : (0 : Int) < (j : Int)
    · obtain ⟨v, a', b', e, hv⟩ := ev_draw 26 a b 21 (by decide) (by decide)
      have e : run 27 .f_law_draw [.d (.ref 0), .d (.int 21)] (B a b) = some (.ok (.d (.int (v : Int))) (B a' b')) := e
      refine ⟨v, a', b', ?_, by omega⟩
      simp only [hj, e, szl, Nat.reduceLeDiff, Int.reduceLT, Int.reduceLE, Int.reduceNeg, List.length_map, List.length_append, List.nil_append, List.cons_append, at_ok, at_exc, ts_ok, ts_exc, sSeq, sSet, sRet, sRetV, sIf, sNil, sRaise, sAug, sAppOwn, sExt, sAsg, sAsg2, sPar2, sPar3, sBrk, sFor, sSetIx, sTry, calmS, slOf, slA, retOk, fnRes, gIAdd, gICat, xVar, xC, xIf, xTest, xTru, xAnd, xOr, xNot, xAndV, xOrV, xChain, xTup, xLst, xSl, oSome, oNone, op1, op2, opN, opM1, opC, aCons, aNil, lift, g1, g2, dAll, gAdd, gLen_tup, gLen_bor, gLen_new, gLen_bz, wipeS, gIx_tup, gIx_bor, gIx_bz, kS, gEq_int, gNe_int, isi_tt, isi_ts, isi_ti, isi_st, isi_ss, isi_si, isi_it, isi_is, isi_ii, gSub_e, gDiv_e, gMod_e, gLt_e, gLe_e, gGt_e, gGe_e, gNeg, gIs, gIsNot, idR, gInt, gAbs, gTy, ty_int, ty_str, ty_tup, ty_bl, ty_non, intOf, strOf, tupOf, lstOf, seqOf, dctOf, truR, truD, truC, gNm, gNilD, gConsD, gTupD, itemsE, itemsS, itemsV, iE, iV, iRg1, iRevEn, iVs, seqV, seqE, List.getElem?_cons_zero, List.getElem?_cons_succ, List.set_cons_zero, List.set_cons_succ, List.length_cons, List.length_nil, Option.map_some, Option.map_none, if_true, decide_true, decide_false, Bool.false_eq_true, if_false, ite_true, ite_false, reduceIte, Nat.reduceAdd, reduceCtorEq, Bool.not_true, Bool.not_false]
    · refine ⟨ns.length % 21, a, b, ?_, Nat.mod_lt _ (by decide)⟩
      have em : ((ns.length % 21 : Nat) : Int) = (ns.length : Int) % 21 := by omega
      rw [em]
      rcases hc with rfl | rfl <;> simp only [hj, gMod_e (i := (ns.length : Int)) (j := 21) (by decide), I, szl, Nat.reduceLeDiff, Int.reduceLT, Int.reduceLE, Int.reduceNeg, List.length_map, List.length_append, List.nil_append, List.cons_append, at_ok, at_exc, ts_ok, ts_exc, sSeq, sSet, sRet, sRetV, sIf, sNil, sRaise, sAug, sAppOwn, sExt, sAsg, sAsg2, sPar2, sPar3, sBrk, sFor, sSetIx, sTry, calmS, slOf, slA, retOk, fnRes, gIAdd, gICat, xVar, xC, xIf, xTest, xTru, xAnd, xOr, xNot, xAndV, xOrV, xChain, xTup, xLst, xSl, oSome, oNone, op1, op2, opN, opM1, opC, aCons, aNil, lift, g1, g2, dAll, gAdd, gLen_tup, gLen_bor, gLen_new, gLen_bz, wipeS, gIx_tup, gIx_bor, gIx_bz, kS, gEq_int, gNe_int, isi_tt, isi_ts, isi_ti, isi_st, isi_ss, isi_si, isi_it, isi_is, isi_ii, gSub_e, gDiv_e, gMod_e, gLt_e, gLe_e, gGt_e, gGe_e, gNeg, gIs, gIsNot, idR, gInt, gAbs, gTy, ty_int, ty_str, ty_tup, ty_bl, ty_non, intOf, strOf, tupOf, lstOf, seqOf, dctOf, truR, truD, truC, gNm, gNilD, gConsD, gTupD, itemsE, itemsS, itemsV, iE, iV, iRg1, iRevEn, iVs, seqV, seqE, List.getElem?_cons_zero, List.getElem?_cons_succ, List.set_cons_zero, List.set_cons_succ, List.length_cons, List.length_nil, Option.map_some, Option.map_none, if_true, decide_true, decide_false, Bool.false_eq_true, if_false, ite_true, ite_false, reduceIte, Nat.reduceAdd, reduceCtorEq, Bool.not_true, Bool.not_false]
  obtain ⟨v, a', b', e1, hv⟩ := hp
  obtain ⟨x4', x5', x6', e2⟩ := inn v hv (.bor c) (.d (.int (j : Nat))) x4 x5 x6 a' b'
  exact ⟨_, x4', x5', x6', a', b', (sSeq_nx e1).trans e2⟩
def rng (j m : Nat) : List D := (List.range' j m).map fun i => D.int (i : Nat)
theorem rng_succ (j m : Nat) : rng j (m + 1) = D.int j :: rng (j + 1) m := rfl
theorem rangeD_rng (n : Nat) : rangeD 0 (n : Int) = rng 0 n := by
  unfold rangeD rng
  rw [Int.sub_zero, Int.toNat_natCast, List.range_eq_range']
  exact List.map_congr_left fun i _ => by rw [Int.zero_add]
theorem loop_ok (ns : List Int) (c : Cn) (hc : c = .lst (I ns) ∨ c = .fz (I ns)) : ∀ (m j : Nat) (a b : Int) (x2 x3 x4 x5 x6 : Sl), ∃ x2' x3' x4' x5' x6' a' b', forL (gNm 2) BODY (rng j m) [.bor c, .d (.ref 0), x2, x3, x4, x5, x6] (B a b) = some (.nx [.bor c, .d (.ref 0), x2', x3', x4', x5', x6'] (B a' b'))
  | 0, j, a, b, x2, x3, x4, x5, x6 => ⟨x2, x3, x4, x5, x6, a, b, rfl⟩
  | m + 1, j, a, b, x2, x3, x4, x5, x6 => by
    obtain ⟨x3', x4', x5', x6', a', b', e⟩ := step_ok ns c hc j a b x3 x4 x5 x6
    obtain ⟨y2, y3, y4, y5, y6, a2, b2, e2⟩ := loop_ok ns c hc m (j + 1) a' b' (.d (.int (j : Nat))) x3' x4' x5' x6'
    refine ⟨y2, y3, y4, y5, y6, a2, b2, ?_⟩
    rw [rng_succ]
    exact (forL_step (S1 := [.bor c, .d (.ref 0), .d (.int (j : Nat)), x3, x4, x5, x6]) rfl e).trans e2
theorem for12 (g : TGx) (f : SX) (S : Env') (h : Hs) : sFor (iRg1 (xC (.int 12))) g f S h = forL g f (rng 0 12) S h := by
  have e : rangeD 0 12 = rng 0 12 := rangeD_rng 12
  unfold sFor iRg1
  simp only [inRg_ok (n := 12) (by decide) (by decide), e, szl, Nat.reduceLeDiff, Int.reduceLT, Int.reduceLE, Int.reduceNeg, List.length_map, List.length_append, List.nil_append, List.cons_append, at_ok, at_exc, ts_ok, ts_exc, sSeq, sSet, sRet, sRetV, sIf, sNil, sRaise, sAug, sAppOwn, sExt, sAsg, sAsg2, sPar2, sPar3, sBrk, sFor, sSetIx, sTry, calmS, slOf, slA, retOk, fnRes, gIAdd, gICat, xVar, xC, xIf, xTest, xTru, xAnd, xOr, xNot, xAndV, xOrV, xChain, xTup, xLst, xSl, oSome, oNone, op1, op2, opN, opM1, opC, aCons, aNil, lift, g1, g2, dAll, gAdd, gLen_tup, gLen_bor, gLen_new, gLen_bz, wipeS, gIx_tup, gIx_bor, gIx_bz, kS, gEq_int, gNe_int, isi_tt, isi_ts, isi_ti, isi_st, isi_ss, isi_si, isi_it, isi_is, isi_ii, gSub_e, gDiv_e, gMod_e, gLt_e, gLe_e, gGt_e, gGe_e, gNeg, gIs, gIsNot, idR, gInt, gAbs, gTy, ty_int, ty_str, ty_tup, ty_bl, ty_non, intOf, strOf, tupOf, lstOf, seqOf, dctOf, truR, truD, truC, gNm, gNilD, gConsD, gTupD, itemsE, itemsS, itemsV, iE, iV, iRg1, iRevEn, iVs, seqV, seqE, List.getElem?_cons_zero, List.getElem?_cons_succ, List.set_cons_zero, List.set_cons_succ, List.length_cons, List.length_nil, Option.map_some, Option.map_none, if_true, decide_true, decide_false, Bool.false_eq_true, if_false, ite_true, ite_false, reduceIte, Nat.reduceAdd, reduceCtorEq, Bool.not_true, Bool.not_false]
theorem b_law : b_f_law (run 27) = sSeq (sSet 1 (xShare (opC 2 (run 27 .f_law_stream) (aCons (xVar 0) (aCons (xC (.int 0)) aNil))))) (sSeq (sFor (iRg1 (xC (.int 12))) (gNm 2) BODY) (sRet (xC (.bl true)))) := rfl
theorem law_goodT : ∀ ns : List Int, ∀ c, c = Cn.lst (ns.map D.int) ∨ c = Cn.fz (ns.map D.int) → ∃ h', run 28 .f_law [R.bor c] [] = some (.ok (.d (.bl true)) h') := by
  intro ns c hc
  obtain ⟨a, b, e0⟩ := ev_stream 25 ns c hc []
  have e0 : run 27 .f_law_stream [.bor c, .d (.int 0)] [] = some (.ok (.new (.lst [.int a, .int b])) []) := e0
  have g0 : (sSet 1 (xShare (opC 2 (run 27 .f_law_stream) (aCons (xVar 0) (aCons (xC (.int 0)) aNil))))) [.bor c, .none, .none, .none, .none, .none, .none] [] = some (.nx [.bor c, .d (.ref 0), .none, .none, .none, .none, .none] (B a b)) := by
    simp only [xShare, toO, e0, szl, Nat.reduceLeDiff, Int.reduceLT, Int.reduceLE, Int.reduceNeg, List.length_map, List.length_append, List.nil_append, List.cons_append, at_ok, at_exc, ts_ok, ts_exc, sSeq, sSet, sRet, sRetV, sIf, sNil, sRaise, sAug, sAppOwn, sExt, sAsg, sAsg2, sPar2, sPar3, sBrk, sFor, sSetIx, sTry, calmS, slOf, slA, retOk, fnRes, gIAdd, gICat, xVar, xC, xIf, xTest, xTru, xAnd, xOr, xNot, xAndV, xOrV, xChain, xTup, xLst, xSl, oSome, oNone, op1, op2, opN, opM1, opC, aCons, aNil, lift, g1, g2, dAll, gAdd, gLen_tup, gLen_bor, gLen_new, gLen_bz, wipeS, gIx_tup, gIx_bor, gIx_bz, kS, gEq_int, gNe_int, isi_tt, isi_ts, isi_ti, isi_st, isi_ss, isi_si, isi_it, isi_is, isi_ii, gSub_e, gDiv_e, gMod_e, gLt_e, gLe_e, gGt_e, gGe_e, gNeg, gIs, gIsNot, idR, gInt, gAbs, gTy, ty_int, ty_str, ty_tup, ty_bl, ty_non, intOf, strOf, tupOf, lstOf, seqOf, dctOf, truR, truD, truC, gNm, gNilD, gConsD, gTupD, itemsE, itemsS, itemsV, iE, iV, iRg1, iRevEn, iVs, seqV, seqE, List.getElem?_cons_zero, List.getElem?_cons_succ, List.set_cons_zero, List.set_cons_succ, List.length_cons, List.length_nil, Option.map_some, Option.map_none, if_true, decide_true, decide_false, Bool.false_eq_true, if_false, ite_true, ite_false, reduceIte, Nat.reduceAdd, reduceCtorEq, Bool.not_true, Bool.not_false]
    rfl
  obtain ⟨x2, x3, x4, x5, x6, a1, b1, e1⟩ := loop_ok ns c hc 12 0 a b .none .none .none .none .none
  rw [← for12] at e1
  have g2 : sRet (xC (.bl true)) [.bor c, .d (.ref 0), x2, x3, x4, x5, x6] (B a1 b1) = some (.ret (.d (.bl true)) (B a1 b1)) := by simp only [szl, Nat.reduceLeDiff, Int.reduceLT, Int.reduceLE, Int.reduceNeg, List.length_map, List.length_append, List.nil_append, List.cons_append, at_ok, at_exc, ts_ok, ts_exc, sSeq, sSet, sRet, sRetV, sIf, sNil, sRaise, sAug, sAppOwn, sExt, sAsg, sAsg2, sPar2, sPar3, sBrk, sFor, sSetIx, sTry, calmS, slOf, slA, retOk, fnRes, gIAdd, gICat, xVar, xC, xIf, xTest, xTru, xAnd, xOr, xNot, xAndV, xOrV, xChain, xTup, xLst, xSl, oSome, oNone, op1, op2, opN, opM1, opC, aCons, aNil, lift, g1, g2, dAll, gAdd, gLen_tup, gLen_bor, gLen_new, gLen_bz, wipeS, gIx_tup, gIx_bor, gIx_bz, kS, gEq_int, gNe_int, isi_tt, isi_ts, isi_ti, isi_st, isi_ss, isi_si, isi_it, isi_is, isi_ii, gSub_e, gDiv_e, gMod_e, gLt_e, gLe_e, gGt_e, gGe_e, gNeg, gIs, gIsNot, idR, gInt, gAbs, gTy, ty_int, ty_str, ty_tup, ty_bl, ty_non, intOf, strOf, tupOf, lstOf, seqOf, dctOf, truR, truD, truC, gNm, gNilD, gConsD, gTupD, itemsE, itemsS, itemsV, iE, iV, iRg1, iRevEn, iVs, seqV, seqE, List.getElem?_cons_zero, List.getElem?_cons_succ, List.set_cons_zero, List.set_cons_succ, List.length_cons, List.length_nil, Option.map_some, Option.map_none, if_true, decide_true, decide_false, Bool.false_eq_true, if_false, ite_true, ite_false, reduceIte, Nat.reduceAdd, reduceCtorEq, Bool.not_true, Bool.not_false]
  refine ⟨B a1 b1, ?_⟩
  show run (27 + 1) .f_law [.bor c] [] = _
  rw [r_f_law, b_law]
  exact congrArg fnRes ((sSeq_nx g0).trans ((sSeq_nx e1).trans g2))
end Sk25
set_option Elab.async false
set_option linter.all false
set_option maxRecDepth 100000
set_option maxHeartbeats 4000000
namespace Sk25
open PySem PySem.Spec PyProof.Rows L2 Sh
structure ExcK (K : PySem.W.Frag) (mg : Str → Option Value) (C : Addr) (x : Str) : Prop where
  ex : ∃ (bmB : List Value) (B newId initId : String), ExcBaseFacts B newId initId bmB ∧ PySem.W.excIn K C bmB newId = true
  g : mg x = some (.ref C)
  k : PySem.W.keepIn K (.ref C) = true
  s : PySem.W.subIn K (.ref C) (.type "BaseException") = some true
  t : PySem.W.typeIn K (.ref C) = some (.type "type")
theorem exc_at {X : Cx} {c : Cc} {x cn : Str} (e : ExcK X.K X.mg (c.cad cn) x) : ExcAt X c x cn := ⟨e.ex, e.g, e.k, raises_own e.s e.t⟩
theorem room_gen {k : Nat} {A : Around} {env : Env} (r : Room (k + 1) A) : Room k (A.in1.in1.deeper env) :=
  ⟨r.hd, by have := r.dp; show A.depth + 1 + 3 * k + 5 < _; omega, by have := r.un; show A.units + 1 + 1 + 3 + 16 * k + 200 < _; omega⟩
theorem hu64 {k : Nat} {A : Around} (r : Room k A) : A.units + 64 < cLine := by have := r.un; show A.units + 64 < _; omega
def adr (K : PySem.W.Frag) (f : Fn) : Addr := He.ga K (nmOf f)
def cadK (K : PySem.W.Frag) (cn : Str) : Addr := He.ga K cn
def qOf (f : Fn) : Str := (envOfC (nmOf f) (defScope (stOf f)) 0 0 .none).qual
/-- a def's code object, its table, which tells code objects of one name -/
structure TabF (K : PySem.W.Frag) (base : Heap) (mg : Str → Option Value) (T : List (Addr × Str)) (fd : FuncData) (q : Str) (c P : Addr) : Prop where
  tb : LamX.TabB base mg c P
  code : fd.code = .ref c
  mem : (P, q) ∈ T
  uniq : ∀ p ∈ T, p.1 = P → p.2 = q
/-- what is known of the module -/
structure Fx (w : World) (K : PySem.W.Frag) (mg : Str → Option Value) (base : Heap) (T : List (Addr × Str)) where
  fd : Fn → FuncData
  fun_ : ∀ f, FunD K (nmOf f) (nmOf f) (defArgs (stOf f)) (defBody (stOf f)) (defScope (stOf f)) [] [] (adr K f) (fd f)
  mg_ : ∀ f, mg (nmOf f) = some (.ref (adr K f))
  binds : ∀ f, Binds K (fd f) (psOf f) []
  keep : ∀ f, PySem.W.keepIn K (.ref (adr K f)) = true
  no_len : mg "len" = none
  no_abs : mg "abs" = none
  no_isinstance : mg "isinstance" = none
  no_int : mg "int" = none
  no_str : mg "str" = none
  no_type : mg "type" = none
  no_tuple : mg "tuple" = none
  no_list : mg "list" = none
  no_range : mg "range" = none
  no_any : mg "any" = none
  no_all : mg "all" = none
  no_reversed : mg "reversed" = none
  no_enumerate : mg "enumerate" = none
  no_bool : mg "bool" = none
  no_zip : mg "zip" = none
  no_set : mg "set" = none
  no_sum : mg "sum" = none
  no_dict : mg "dict" = none
  no_max : mg "max" = none
  no_min : mg "min" = none
  no_sorted : mg "sorted" = none
  c_WORDS : KC K mg "WORDS" k_WORDS
  c_SIGNS : KC K mg "SIGNS" k_SIGNS
  c_MOST : KC K mg "MOST" k_MOST
  g_SIZES : mg "SIZES" = some (.ref (cadK K "SIZES"))
  t_SIZES : KTbl K w (cadK K "SIZES") t_SIZES
  x_BadProgram : ExcK K mg (cadK K "BadProgram") "BadProgram"
  g_Tr : mg "TypeTroubles" = some (.ref (cadK K "TypeTroubles"))
  g_BP : mg "BadProgram" = some (.ref (cadK K "BadProgram"))
  g_BQ : mg "BadQuestion" = some (.ref (cadK K "BadQuestion"))
  g_BR : mg "BadRun" = some (.ref (cadK K "BadRun"))
  g_NT : mg "NotThere" = some (.ref (cadK K "NotThere"))
  told : ∀ cn nm, nmF cn = some nm → ToldC K (cadK K "TypeTroubles") (cadK K "BadProgram") (cadK K "BadQuestion") (cadK K "BadRun") (cadK K "NotThere") ⟨"program", "question", "run", "there", "other"⟩ (cadK K cn) nm
  cT : Fn → Addr × Addr
  tab_g : ∀ f ∈ [Fn.f_is_name, Fn.f_divisions, Fn.f_head_of, Fn.f_call_fits, Fn.f_names_fit, Fn.f_function_fits, Fn.f_is_whole, Fn.f_call_text, Fn.f_head, Fn.f_write], TabF K base mg T (fd f) (qOf f ++ "<genexpr>") (cT f).1 (cT f).2
  tab_l : TabF K base mg T (fd .f_law) (qOf .f_law ++ "<lambda>") (cT .f_law).1 (cT .f_law).2
/-- a def by the reading of its body -/
theorem fn_bd {P : Program} {w : World} {K : PySem.W.Frag} {mg : Str → Option Value} {base : Heap} {T : List (Addr × Str)} (Z : Fx w K mg base T) (f : Fn) {k : Nat} {rn : Fn → Fd} (S : FnScope (locOf f) (psOf f) (defScope (stOf f)))
    (hb : ∀ (cdv : Value) (A : Around) (outer : List Env) (s : Shared) (ρ0 : List Addr) (H : Hp) (E : XK), (Z.fd f).code = cdv → Room k (A.deeper (envOfC (nmOf f) (defScope (stOf f)) s.heap.objs.size (adr K f) cdv)) →
      CSs (cxOf (L2.CX P w) P w K mg base (locOf f) (nmOf f) (defScope (stOf f)) (adr K f) cdv A outer s H E) ⟨T, cadK K, ρ0, H, fun cls d _ H' => E cls d H'⟩ (defBody (stOf f)) (bdOf f rn)) :
    FnOk P w K mg base (L2.CX P w) (k + 1) (adr K f) (Z.fd f) (psOf f) (spF ⟨K, T, cadK K⟩ (psOf f).length (denF (psOf f).length (locOf f).length (bdOf f rn))) := by
  obtain ⟨oc, od, dV, kV, doc, pm, an, cdv, ct, osl, e, lk, hcd, _⟩ := (Z.fun_ f).ex
  rw [e] at lk ⊢
  exact fn_den lk hcd S fun A outer s ρ0 H E hr => hb cdv A outer s ρ0 H E (by rw [e] <;> rfl) hr
abbrev OkF (P : Program) (w : World) (K : PySem.W.Frag) (mg : Str → Option Value) (base : Heap) (T : List (Addr × Str)) (Z : Fx w K mg base T) (k : Nat) (rn : Fn → Fd) (f : Fn) : Prop :=
  FnOk P w K mg base (L2.CX P w) k (adr K f) (Z.fd f) (psOf f) (spF ⟨K, T, cadK K⟩ (psOf f).length (rn f))
/-- a value that is not told as a trouble is left as it is -/
theorem spF_weak {p : Pm} {np : Nat} {g : Fd} (vs : List V) (H : Hp) (Q : VK) (E : XK) (e : spF p np g vs H Q fun _ _ _ => False) : spF p np g vs H Q E := by
  obtain ⟨h1, ρ, h, Ha, rs, h2, h3, h4, h5⟩ := e
  refine ⟨h1, ρ, h, Ha, rs, h2, h3, h4, ?_⟩
  cases hg : g rs h with
  | none => rw [hg] at h5; exact h5
  | some r =>
    rw [hg] at h5
    cases r with
    | ok a h' => exact h5
    | exc c h' => exact fun ρ' H' n => (h5 ρ' H' n).elim
abbrev cxF (P : Program) (w : World) (K : PySem.W.Frag) (mg : Str → Option Value) (base : Heap) (f : Fn) (cdv : Value) (A : Around) (outer : List Env) (s : Shared) (H : Hp) (E : XK) : Cx :=
  cxOf (L2.CX P w) P w K mg base (locOf f) (nmOf f) (defScope (stOf f)) (adr K f) cdv A outer s H E
theorem told_at {P : Program} {w : World} {K : PySem.W.Frag} {mg : Str → Option Value} {base : Heap} {T : List (Addr × Str)} (Z : Fx w K mg base T) {k : Nat} {cs : Fn → Fd} (cdv : Value) (A : Around) (outer : List Env) (s : Shared) (H : Hp) (E : XK)
    (IH : ∀ f, OkF P w K mg base T Z (4 * k) cs f) (hr : Room (4 * k + 3) (A.deeper (envOfC (nmOf .f_law) (defScope (stOf .f_law)) s.heap.objs.size (adr K .f_law) cdv))) :
    ∃ cdT : Value, Taker (cxF P w K mg base .f_law cdv A outer s H E) "_law_told" "call" (adr K .f_law_told) (Z.fd .f_law_told) ["call", "e"] (defBody (stOf .f_law_told)) (defScope (stOf .f_law_told)) cdT
      ∧ LamX.GivesTo (cxF P w K mg base .f_law cdv A outer s H E) ["call", "e"] "_law_told" (defScope (stOf .f_law_told)) (adr K .f_law_told) cdT (defBody (stOf .f_law_told)) "call" ((cxF P w K mg base .f_law cdv A outer s H E).env.qual ++ "<lambda>")
          (TToldS K (cadK K "TypeTroubles") (cadK K "BadProgram") (cadK K "BadQuestion") (cadK K "BadRun") (cadK K "NotThere") ⟨"program", "question", "run", "there", "other"⟩ (spF ⟨K, T, cadK K⟩ 1 (cs .f_law_read))) := by
  obtain ⟨oc, od, dV, kV, doc, pm, an, cdT, ct, osl, e, lk, hcd, _⟩ := (Z.fun_ .f_law_told).ex
  refine ⟨cdT, ⟨⟨_, dV, kV, doc, pm, ct, oc, an, od, osl, e, lk⟩, hcd, Z.mg_ .f_law_told, Z.keep .f_law_told, Z.binds .f_law_told, ⟨rfl, rfl, rfl, by decide +kernel, rfl, by decide +kernel, by decide +kernel⟩, rfl, .inl rfl⟩, ?_⟩
  exact told_gives2 (X := cxF P w K mg base .f_law cdv A outer s H E) (k := 4 * k) (fv := ⟨"program", "question", "run", "there", "other"⟩) (hr.mono (by omega)) rfl (Z.mg_ .f_law_read) (Z.keep .f_law_read) (Z.binds .f_law_read) (IH .f_law_read)
    spF_weak rfl Z.g_Tr rfl Z.g_BP rfl Z.g_BQ rfl Z.g_BR rfl Z.g_NT rfl Z.no_isinstance rfl (by decide +kernel) rfl (by decide) (by decide) (by decide) (by decide) (by decide) (by decide) (by decide) (by decide)
end Sk25
set_option Elab.async false
set_option linter.all false
set_option maxRecDepth 100000
set_option maxHeartbeats 4000000
namespace Sk25
open PySem PySem.Spec PyProof.Rows L2 Sh
section
variable {P : Program} {w : World} {K : PySem.W.Frag} {mg : Str → Option Value} {base : Heap} {T : List (Addr × Str)}
theorem sc_f_law_sized : FnScope (locOf .f_law_sized) (psOf .f_law_sized) (defScope (stOf .f_law_sized)) := ⟨rfl, rfl, rfl, by decide +kernel, rfl, by decide +kernel, by decide +kernel⟩
theorem nd_f_law_sized : (locOf .f_law_sized).Nodup := sc_f_law_sized.nd
theorem ok_f_law_sized (Z : Fx w K mg base T) {k : Nat} {cs : Fn → Fd} (IH : ∀ f, OkF P w K mg base T Z (4 * k) cs f) : FnOk P w K mg base (L2.CX P w) (4 * k + 3 + 1) (adr K .f_law_sized) (Z.fd .f_law_sized) (psOf .f_law_sized) (spF ⟨K, T, cadK K⟩ (psOf .f_law_sized).length (denF (psOf .f_law_sized).length (locOf .f_law_sized).length (bdOf .f_law_sized cs))) := by
  refine fn_bd Z .f_law_sized sc_f_law_sized fun cdv A outer s ρ0 H E hcd hr => ?_
  show CSs _ _ _ (b_f_law_sized cs)
  unfold b_f_law_sized
  exact (cs_cons (cs_asg (ce_tup (ca_cons (ce_tup (ca_cons ce_str ca_nil)) (ca_cons (ce_tup (ca_cons (ce_tup (ca_cons ce_str (ca_cons (ce_tup (ca_cons ce_int (ca_cons ce_int (ca_cons (ce_tup (ca_cons ce_str ca_nil)) ca_nil)))) ca_nil))) ca_nil)) ca_nil))) (cg_tup rfl (cgs_cons (cg_name (i := 2) nd_f_law_sized) (cgs_cons (cg_name (i := 3) nd_f_law_sized) (cgs_nil (ts := []))))))
  (cs_cons (cs_par2 (i := 4) (j := 5) rfl nd_f_law_sized rfl rfl (by decide) rfl rfl (ca_cons (ce_tup (ca_cons ce_str (ca_cons (ce_var (i := 2)) ca_nil))) (ca_cons (ce_tup (ca_cons ce_str (ca_cons ce_int (ca_cons ce_int (ca_cons ce_int ca_nil))))) ca_nil)) rfl)
  (cs_cons (cs_if (ct_cmp (op_eqD (hu64 hr)) p2_eq (ce_var (i := 0)) ce_int rfl) (cs_one (cs_ret (ce_tup (ca_cons (ce_call (IH .f_law_f) (hr.mono (by omega)) rfl (Z.mg_ .f_law_f) (Z.keep .f_law_f) (Z.binds .f_law_f) (takes_of rfl rfl rfl rfl) (ca_cons (ce_var (i := 3)) (ca_cons (ce_tup ca_nil) (ca_cons (ce_tup (ca_cons (ce_tup (ca_cons ce_str (ca_cons (ce_tup (ca_cons ce_str (ca_cons (ce_tup (ca_cons ce_str (ca_cons (ce_op op_addA p2_add ce_int (ce_var (i := 1))) ca_nil))) (ca_cons (ce_tup (ca_cons ce_str (ca_cons (ce_op op_sub p2_sub ce_int ce_int) ca_nil))) ca_nil)))) ca_nil))) ca_nil)) ca_nil)))) ca_nil)))) cs_nil)
  (cs_cons (cs_if (ct_cmp (op_eqD (hu64 hr)) p2_eq (ce_var (i := 0)) ce_int rfl) (cs_one (cs_ret (ce_tup (ca_cons (ce_call (IH .f_law_f) (hr.mono (by omega)) rfl (Z.mg_ .f_law_f) (Z.keep .f_law_f) (Z.binds .f_law_f) (takes_of rfl rfl rfl rfl) (ca_cons (ce_var (i := 3)) (ca_cons (ce_tup ca_nil) (ca_cons (ce_tup (ca_cons (ce_tup (ca_cons ce_str (ca_cons (ce_tup (ca_cons ce_str (ca_cons (ce_tup (ca_cons ce_str (ca_cons (ce_op op_sub p2_sub (ce_op op_sub p2_sub ce_int ce_int) (ce_var (i := 1))) (ca_cons (ce_tup (ca_cons ce_str (ca_cons ce_str ca_nil))) ca_nil)))) (ca_cons (ce_tup (ca_cons ce_str (ca_cons (ce_tup (ca_cons ce_str (ca_cons ce_str ca_nil))) (ca_cons ce_int ca_nil)))) ca_nil)))) ca_nil))) ca_nil)) ca_nil)))) ca_nil)))) cs_nil)
  (cs_cons (cs_if (ct_cmp (op_eqD (hu64 hr)) p2_eq (ce_var (i := 0)) ce_int rfl) (cs_one (cs_ret (ce_tup (ca_cons (ce_call (IH .f_law_f) (hr.mono (by omega)) rfl (Z.mg_ .f_law_f) (Z.keep .f_law_f) (Z.binds .f_law_f) (takes_of rfl rfl rfl rfl) (ca_cons (ce_var (i := 3)) (ca_cons (ce_tup ca_nil) (ca_cons (ce_tup (ca_cons (ce_tup (ca_cons ce_str (ca_cons (ce_tup (ca_cons ce_str (ca_cons (ce_tup (ca_cons ce_str (ca_cons (ce_tup (ca_cons ce_str (ca_cons ce_str ca_nil))) (ca_cons (ce_op op_addA p2_add ce_int (ce_var (i := 1))) ca_nil)))) (ca_cons (ce_tup (ca_cons ce_str (ca_cons ce_int ca_nil))) ca_nil)))) ca_nil))) ca_nil)) ca_nil)))) ca_nil)))) cs_nil)
  (cs_cons (cs_if (ct_cmp (op_eqD (hu64 hr)) p2_eq (ce_var (i := 0)) ce_int rfl) (cs_one (cs_ret (ce_callTy call_tuple_of pn_tuple rfl Z.no_tuple boot_tuple (ca_cons (ce_lc (own := [("k", 6)]) (ts := [6]) rfl nd_f_law_sized (blkOk_by (by show blkC (locOf .f_law_sized) (defScope (stOf .f_law_sized)) _ _ = true; decide +kernel)) (ci_range1 (fz := fzE) rfl Z.no_range (ce_op op_addA p2_add ce_int (ce_var (i := 1)))) (fun _ _ _ _ _ => (cg_name (i := 6) nd_f_law_sized)) (fun _ _ _ _ _ => cts_nil) (fun _ _ _ _ _ => (ce_op op_addA p2_add (ce_tup (ca_cons (ce_op op_addA p2_add ce_str (ce_callTy call_str_int pn_str rfl Z.no_str boot_str (ca_cons (ce_var (i := 6)) ca_nil))) ca_nil)) (ce_slice (ce_call (IH .f_law_f) (hr.mono (by omega)) rfl (Z.mg_ .f_law_f) (Z.keep .f_law_f) (Z.binds .f_law_f) LamX.takes0 (ca_cons (ce_var (i := 3)) (ca_cons (ce_tup ca_nil) (ca_cons (ce_tup ca_nil) ca_nil)))) (co_some ce_int) co_none))) (by decide)) ca_nil)))) cs_nil)
  (cs_cons (cs_if (ct_cmp (op_eqD (hu64 hr)) p2_eq (ce_var (i := 0)) ce_int rfl) (cs_one (cs_ret (ce_tup (ca_cons (ce_call (IH .f_law_f) (hr.mono (by omega)) rfl (Z.mg_ .f_law_f) (Z.keep .f_law_f) (Z.binds .f_law_f) (takes_of rfl rfl rfl rfl) (ca_cons (ce_callTy call_tuple_of pn_tuple rfl Z.no_tuple boot_tuple (ca_cons (ce_lc (own := [("k", 6)]) (ts := [6]) rfl nd_f_law_sized (blkOk_by (by show blkC (locOf .f_law_sized) (defScope (stOf .f_law_sized)) _ _ = true; decide +kernel)) (ci_range1 (fz := fzE) rfl Z.no_range (ce_op op_addA p2_add ce_int (ce_var (i := 1)))) (fun _ _ _ _ _ => (cg_name (i := 6) nd_f_law_sized)) (fun _ _ _ _ _ => cts_nil) (fun _ _ _ _ _ => (ce_tup (ca_cons (ce_op op_addA p2_add ce_str (ce_callTy call_str_int pn_str rfl Z.no_str boot_str (ca_cons (ce_var (i := 6)) ca_nil))) (ca_cons (ce_tup (ca_cons ce_int (ca_cons ce_int (ca_cons (ce_var (i := 2)) ca_nil)))) ca_nil)))) (by decide)) ca_nil)) (ca_cons (ce_tup ca_nil) (ca_cons (ce_tup ca_nil) ca_nil)))) ca_nil)))) cs_nil)
  (cs_cons (cs_if (ct_cmp (op_eqD (hu64 hr)) p2_eq (ce_var (i := 0)) ce_int rfl) (cs_one (cs_ret (ce_tup (ca_cons (ce_call (IH .f_law_f) (hr.mono (by omega)) rfl (Z.mg_ .f_law_f) (Z.keep .f_law_f) (Z.binds .f_law_f) (takes_of rfl rfl rfl rfl) (ca_cons (ce_var (i := 3)) (ca_cons (ce_callTy call_tuple_of pn_tuple rfl Z.no_tuple boot_tuple (ca_cons (ce_lc (own := [("k", 6)]) (ts := [6]) rfl nd_f_law_sized (blkOk_by (by show blkC (locOf .f_law_sized) (defScope (stOf .f_law_sized)) _ _ = true; decide +kernel)) (ci_range1 (fz := fzE) rfl Z.no_range (ce_op op_addA p2_add ce_int (ce_var (i := 1)))) (fun _ _ _ _ _ => (cg_name (i := 6) nd_f_law_sized)) (fun _ _ _ _ _ => cts_nil) (fun _ _ _ _ _ => (ce_tup (ca_cons (ce_op op_addA p2_add ce_str (ce_callTy call_str_int pn_str rfl Z.no_str boot_str (ca_cons (ce_var (i := 6)) ca_nil))) (ca_cons ce_int (ca_cons ce_int (ca_cons ce_int ca_nil)))))) (by decide)) ca_nil)) (ca_cons (ce_tup ca_nil) ca_nil)))) ca_nil)))) cs_nil)
  (cs_cons (cs_if (ct_cmp (op_eqD (hu64 hr)) p2_eq (ce_var (i := 0)) ce_int rfl) (cs_one (cs_ret (ce_tup (ca_cons (ce_call (IH .f_law_f) (hr.mono (by omega)) rfl (Z.mg_ .f_law_f) (Z.keep .f_law_f) (Z.binds .f_law_f) (takes_of rfl rfl rfl rfl) (ca_cons (ce_var (i := 3)) (ca_cons (ce_tup (ca_cons (ce_tup (ca_cons ce_str (ca_cons (ce_op op_addA p2_add ce_int (ce_var (i := 1))) (ca_cons ce_int (ca_cons ce_int ca_nil))))) ca_nil)) (ca_cons (ce_tup ca_nil) ca_nil)))) ca_nil)))) cs_nil)
  (cs_cons (cs_if (ct_cmp (op_eqD (hu64 hr)) p2_eq (ce_var (i := 0)) ce_int rfl) (cs_one (cs_ret (ce_tup (ca_cons (ce_call (IH .f_law_f) (hr.mono (by omega)) rfl (Z.mg_ .f_law_f) (Z.keep .f_law_f) (Z.binds .f_law_f) (takes_of rfl rfl rfl rfl) (ca_cons (ce_var (i := 3)) (ca_cons (ce_tup ca_nil) (ca_cons (ce_op op_mulB p2_mulB (ce_tup (ca_cons (ce_var (i := 4)) ca_nil)) (ce_op op_addA p2_add ce_int (ce_var (i := 1)))) ca_nil)))) ca_nil)))) cs_nil)
  (cs_cons (cs_if (ct_cmp (op_eqD (hu64 hr)) p2_eq (ce_var (i := 0)) ce_int rfl) (cs_cons (cs_set (i := 7) (ce_call (IH .f_law_chain) (hr.mono (by omega)) rfl (Z.mg_ .f_law_chain) (Z.keep .f_law_chain) (Z.binds .f_law_chain) (takes_of rfl rfl rfl rfl) (ca_cons (ce_op op_addA p2_add ce_int (ce_var (i := 1))) (ca_cons (ce_cmp (op_eqD (hu64 hr)) p2_eq (ce_var (i := 1)) ce_int rfl) ca_nil))) nd_f_law_sized)
  (cs_one (cs_ret (ce_tup (ca_cons (ce_call (IH .f_law_f) (hr.mono (by omega)) rfl (Z.mg_ .f_law_f) (Z.keep .f_law_f) (Z.binds .f_law_f) (takes_of rfl rfl rfl rfl) (ca_cons (ce_var (i := 3)) (ca_cons (ce_tup ca_nil) (ca_cons (ce_tup (ca_cons (ce_tup (ca_cons ce_str (ca_cons ce_str (ca_cons (ce_tup (ca_cons (ce_op op_sub p2_sub ce_int ce_int) (ca_cons ce_int (ca_cons (ce_var (i := 2)) ca_nil)))) (ca_cons (ce_var (i := 7)) ca_nil))))) ca_nil)) ca_nil)))) ca_nil))))) cs_nil)
  (cs_cons (cs_if (ct_cmp (op_eqD (hu64 hr)) p2_eq (ce_var (i := 0)) ce_int rfl) (cs_cons (cs_set (i := 8) (ce_tup (ca_cons ce_str (ca_cons (ce_call (IH .f_law_chain) (hr.mono (by omega)) rfl (Z.mg_ .f_law_chain) (Z.keep .f_law_chain) (Z.binds .f_law_chain) (takes_of rfl rfl rfl rfl) (ca_cons ce_int (ca_cons ce_bl ca_nil))) (ca_cons (ce_call (IH .f_law_chain) (hr.mono (by omega)) rfl (Z.mg_ .f_law_chain) (Z.keep .f_law_chain) (Z.binds .f_law_chain) (takes_of rfl rfl rfl rfl) (ca_cons ce_int (ca_cons (ce_cmp (op_eqD (hu64 hr)) p2_eq (ce_var (i := 1)) ce_int rfl) ca_nil))) ca_nil)))) nd_f_law_sized)
  (cs_one (cs_ret (ce_tup (ca_cons (ce_call (IH .f_law_f) (hr.mono (by omega)) rfl (Z.mg_ .f_law_f) (Z.keep .f_law_f) (Z.binds .f_law_f) (takes_of rfl rfl rfl rfl) (ca_cons (ce_var (i := 3)) (ca_cons (ce_tup ca_nil) (ca_cons (ce_tup (ca_cons (ce_tup (ca_cons ce_str (ca_cons (ce_var (i := 8)) ca_nil))) ca_nil)) ca_nil)))) ca_nil))))) cs_nil)
  (cs_cons (cs_if (ct_cmp (op_eqD (hu64 hr)) p2_eq (ce_var (i := 0)) ce_int rfl) (cs_cons (cs_set (i := 9) (ce_tup (ca_cons (ce_tup (ca_cons ce_str (ca_cons (ce_var (i := 2)) (ca_cons (ce_tup (ca_cons (ce_tup (ca_cons ce_str (ca_cons (ce_var (i := 2)) (ca_cons (ce_var (i := 2)) (ca_cons (ce_tup (ca_cons ce_str (ca_cons ce_int ca_nil))) (ca_cons (ce_tup (ca_cons (ce_var (i := 4)) ca_nil)) ca_nil)))))) ca_nil)) (ca_cons (ce_tup ca_nil) ca_nil))))) (ca_cons (ce_tup (ca_cons ce_str (ca_cons (ce_var (i := 2)) (ca_cons (ce_tup ca_nil) (ca_cons (ce_tup ca_nil) ca_nil))))) (ca_cons (ce_tup (ca_cons ce_str (ca_cons (ce_var (i := 2)) (ca_cons (ce_var (i := 2)) (ca_cons (ce_tup (ca_cons ce_str (ca_cons ce_int ca_nil))) (ca_cons (ce_tup ca_nil) ca_nil)))))) ca_nil)))) nd_f_law_sized)
  (cs_one (cs_ret (ce_tup (ca_cons (ce_call (IH .f_law_f) (hr.mono (by omega)) rfl (Z.mg_ .f_law_f) (Z.keep .f_law_f) (Z.binds .f_law_f) (takes_of rfl rfl rfl rfl) (ca_cons (ce_var (i := 3)) (ca_cons (ce_tup ca_nil) (ca_cons (ce_op op_addA p2_add (ce_slice (ce_var (i := 9)) co_none (co_some ce_int)) (ce_op op_mulB p2_mulB (ce_slice (ce_var (i := 9)) (co_some ce_int) co_none) (ce_var (i := 1)))) ca_nil)))) ca_nil))))) cs_nil)
  (cs_cons (cs_if (ct_cmp (op_eqD (hu64 hr)) p2_eq (ce_var (i := 0)) ce_int rfl) (cs_cons (cs_set (i := 9) (ce_callTy call_tuple_of pn_tuple rfl Z.no_tuple boot_tuple (ca_cons (ce_lc (own := [("k", 6)]) (ts := [6]) rfl nd_f_law_sized (blkOk_by (by show blkC (locOf .f_law_sized) (defScope (stOf .f_law_sized)) _ _ = true; decide +kernel)) (ci_range1 (fz := fzE) rfl Z.no_range (ce_op op_addA p2_add ce_int (ce_var (i := 1)))) (fun _ _ _ _ _ => (cg_name (i := 6) nd_f_law_sized)) (fun _ _ _ _ _ => cts_nil) (fun _ _ _ _ _ => (ce_tup (ca_cons ce_str (ca_cons (ce_op op_addA p2_add ce_str (ce_callTy call_str_int pn_str rfl Z.no_str boot_str (ca_cons (ce_var (i := 6)) ca_nil))) (ca_cons (ce_tup (ca_cons ce_int (ca_cons ce_int (ca_cons (ce_var (i := 2)) ca_nil)))) (ca_cons ce_str (ca_cons (ce_tup (ca_cons ce_str (ca_cons ce_int ca_nil))) ca_nil))))))) (by decide)) ca_nil)) nd_f_law_sized)
  (cs_one (cs_ret (ce_tup (ca_cons (ce_call (IH .f_law_f) (hr.mono (by omega)) rfl (Z.mg_ .f_law_f) (Z.keep .f_law_f) (Z.binds .f_law_f) (takes_of rfl rfl rfl rfl) (ca_cons (ce_var (i := 3)) (ca_cons (ce_tup (ca_cons (ce_var (i := 5)) ca_nil)) (ca_cons (ce_op op_addA p2_add (ce_var (i := 9)) (ce_tup (ca_cons (ce_tup (ca_cons ce_str (ca_cons ce_str (ca_cons (ce_tup (ca_cons ce_int (ca_cons ce_int (ca_cons (ce_var (i := 2)) ca_nil)))) (ca_cons ce_str (ca_cons (ce_tup (ca_cons (ce_tup (ca_cons ce_str (ca_cons ce_int ca_nil))) ca_nil)) (ca_cons (ce_tup (ca_cons ce_str ca_nil)) ca_nil))))))) ca_nil))) ca_nil)))) ca_nil))))) cs_nil)
  (cs_cons (cs_if (ct_cmp (op_eqD (hu64 hr)) p2_eq (ce_var (i := 0)) ce_int rfl) (cs_cons (cs_set (i := 8) (ce_tup (ca_cons ce_str (ca_cons (ce_tup (ca_cons ce_str (ca_cons (ce_tup (ca_cons ce_str (ca_cons ce_str ca_nil))) (ca_cons ce_int ca_nil)))) (ca_cons (ce_tup (ca_cons ce_str (ca_cons (ce_tup (ca_cons ce_str (ca_cons (ce_tup (ca_cons ce_str (ca_cons ce_str ca_nil))) (ca_cons ce_int ca_nil)))) (ca_cons ce_int ca_nil)))) ca_nil)))) nd_f_law_sized)
  (cs_cons (cs_set (i := 10) (ce_tup (ca_cons ce_str (ca_cons (ce_tup (ca_cons ce_str (ca_cons (ce_tup (ca_cons ce_str (ca_cons (ce_tup (ca_cons ce_str (ca_cons ce_str ca_nil))) (ca_cons ce_int ca_nil)))) (ca_cons (ce_tup (ca_cons ce_str (ca_cons ce_int ca_nil))) ca_nil)))) ca_nil))) nd_f_law_sized)
  (cs_cons (cs_set (i := 11) (ce_callTy call_tuple_of pn_tuple rfl Z.no_tuple boot_tuple (ca_cons (ce_lc (own := [("k", 6)]) (ts := [6]) rfl nd_f_law_sized (blkOk_by (by show blkC (locOf .f_law_sized) (defScope (stOf .f_law_sized)) _ _ = true; decide +kernel)) (ci_range1 (fz := fzE) rfl Z.no_range ce_int) (fun _ _ _ _ _ => (cg_name (i := 6) nd_f_law_sized)) (fun _ _ _ _ _ => cts_nil) (fun _ _ _ _ _ => (ce_tup (ca_cons (ce_op op_addA p2_add ce_str (ce_callTy call_str_int pn_str rfl Z.no_str boot_str (ca_cons (ce_var (i := 6)) ca_nil))) (ca_cons (ce_tup (ca_cons ce_int (ca_cons ce_int (ca_cons (ce_var (i := 8)) ca_nil)))) ca_nil)))) (by decide)) ca_nil)) nd_f_law_sized)
  (cs_one (cs_ret (ce_tup (ca_cons (ce_call (IH .f_law_f) (hr.mono (by omega)) rfl (Z.mg_ .f_law_f) (Z.keep .f_law_f) (Z.binds .f_law_f) (takes_of rfl rfl rfl rfl) (ca_cons (ce_op op_addA p2_add (ce_var (i := 3)) (ce_var (i := 11))) (ca_cons (ce_tup ca_nil) (ca_cons (ce_op op_mulB p2_mulB (ce_tup (ca_cons (ce_var (i := 10)) ca_nil)) (ce_op op_addA p2_add ce_int (ce_var (i := 1)))) ca_nil)))) ca_nil))))))) cs_nil)
  (cs_cons (cs_if (ct_cmp (op_eqD (hu64 hr)) p2_eq (ce_var (i := 0)) ce_int rfl) (cs_one (cs_ret (ce_tup (ca_cons (ce_call (IH .f_law_f) (hr.mono (by omega)) rfl (Z.mg_ .f_law_f) (Z.keep .f_law_f) (Z.binds .f_law_f) (takes_of rfl rfl rfl rfl) (ca_cons (ce_var (i := 3)) (ca_cons (ce_tup ca_nil) (ca_cons (ce_tup (ca_cons (ce_tup (ca_cons ce_str (ca_cons (ce_op op_mulB p2_mulB ce_str (ce_op op_addA p2_add ce_int (ce_var (i := 1)))) (ca_cons (ce_tup (ca_cons ce_int (ca_cons ce_int (ca_cons (ce_var (i := 2)) ca_nil)))) (ca_cons (ce_tup (ca_cons ce_str (ca_cons ce_int ca_nil))) ca_nil))))) ca_nil)) ca_nil)))) ca_nil)))) cs_nil)
  (cs_cons (cs_if (ct_cmp (op_eqD (hu64 hr)) p2_eq (ce_var (i := 0)) ce_int rfl) (cs_one (cs_ret (ce_tup (ca_cons (ce_call (IH .f_law_f) (hr.mono (by omega)) rfl (Z.mg_ .f_law_f) (Z.keep .f_law_f) (Z.binds .f_law_f) (takes_of rfl rfl rfl rfl) (ca_cons (ce_tup (ca_cons (ce_tup (ca_cons ce_str (ca_cons (ce_tup (ca_cons (ce_op op_addA p2_add ce_int (ce_var (i := 1))) (ca_cons ce_int (ca_cons (ce_var (i := 2)) ca_nil)))) ca_nil))) ca_nil)) (ca_cons (ce_tup ca_nil) (ca_cons (ce_tup ca_nil) ca_nil)))) ca_nil)))) cs_nil)
  (cs_cons (cs_if (ct_cmp (op_eqD (hu64 hr)) p2_eq (ce_var (i := 0)) ce_int rfl) (cs_one (cs_ret (ce_tup (ca_cons (ce_call (IH .f_law_f) (hr.mono (by omega)) rfl (Z.mg_ .f_law_f) (Z.keep .f_law_f) (Z.binds .f_law_f) (takes_of rfl rfl rfl rfl) (ca_cons (ce_var (i := 3)) (ca_cons (ce_tup (ca_cons (ce_tup (ca_cons ce_str (ca_cons ce_int (ca_cons (ce_op op_addA p2_add ce_int (ce_var (i := 1))) (ca_cons ce_int ca_nil))))) ca_nil)) (ca_cons (ce_tup ca_nil) ca_nil)))) ca_nil)))) cs_nil)
  (cs_cons (cs_if (ct_cmp (op_eqD (hu64 hr)) p2_eq (ce_var (i := 0)) ce_int rfl) (cs_one (cs_ret (ce_tup (ca_cons (ce_call (IH .f_law_f) (hr.mono (by omega)) rfl (Z.mg_ .f_law_f) (Z.keep .f_law_f) (Z.binds .f_law_f) (takes_of rfl rfl rfl rfl) (ca_cons (ce_var (i := 3)) (ca_cons (ce_tup (ca_cons (ce_tup (ca_cons ce_str (ca_cons (ce_op op_sub p2_sub ce_int (ce_var (i := 1))) (ca_cons ce_int (ca_cons ce_int ca_nil))))) ca_nil)) (ca_cons (ce_tup ca_nil) ca_nil)))) ca_nil)))) cs_nil)
  (cs_cons (cs_if (ct_cmp (op_eqD (hu64 hr)) p2_eq (ce_var (i := 0)) ce_int rfl) (cs_one (cs_ret (ce_tup (ca_cons (ce_call (IH .f_law_f) (hr.mono (by omega)) rfl (Z.mg_ .f_law_f) (Z.keep .f_law_f) (Z.binds .f_law_f) (takes_of rfl rfl rfl rfl) (ca_cons (ce_var (i := 3)) (ca_cons (ce_tup ca_nil) (ca_cons (ce_tup (ca_cons (ce_tup (ca_cons ce_str (ca_cons (ce_tup (ca_cons ce_str (ca_cons (ce_tup (ca_cons ce_str (ca_cons (ce_tup (ca_cons ce_str (ca_cons ce_str ca_nil))) (ca_cons (ce_op op_sub p2_sub ce_int (ce_var (i := 1))) ca_nil)))) (ca_cons (ce_tup (ca_cons ce_str (ca_cons ce_int ca_nil))) ca_nil)))) ca_nil))) ca_nil)) ca_nil)))) ca_nil)))) cs_nil)
  (cs_cons (cs_if (ct_cmp (op_eqD (hu64 hr)) p2_eq (ce_var (i := 0)) ce_int rfl) (cs_cons (cs_set (i := 12) (ce_if (ct_cmp (op_eqD (hu64 hr)) p2_eq (ce_var (i := 1)) ce_int rfl) (ce_tup (ca_cons ce_str (ca_cons ce_str ca_nil))) (ce_tup (ca_cons ce_str (ca_cons ce_str ca_nil)))) nd_f_law_sized)
  (cs_cons (cs_set (i := 13) (ce_tup (ca_cons (ce_var (i := 5)) (ca_cons (ce_tup (ca_cons ce_str (ca_cons ce_int (ca_cons ce_int (ca_cons ce_int ca_nil))))) ca_nil))) nd_f_law_sized)
  (cs_one (cs_ret (ce_tup (ca_cons (ce_call (IH .f_law_f) (hr.mono (by omega)) rfl (Z.mg_ .f_law_f) (Z.keep .f_law_f) (Z.binds .f_law_f) (takes_of rfl rfl rfl rfl) (ca_cons (ce_var (i := 3)) (ca_cons (ce_var (i := 13)) (ca_cons (ce_tup (ca_cons (ce_tup (ca_cons ce_str (ca_cons ce_str (ca_cons (ce_tup (ca_cons ce_int (ca_cons ce_int (ca_cons (ce_var (i := 2)) ca_nil)))) (ca_cons ce_str (ca_cons (ce_tup (ca_cons (ce_tup (ca_cons ce_str (ca_cons ce_int ca_nil))) ca_nil)) (ca_cons (ce_var (i := 12)) ca_nil))))))) ca_nil)) ca_nil)))) ca_nil)))))) cs_nil)
  (cs_cons (cs_if (ct_cmp (op_eqD (hu64 hr)) p2_eq (ce_var (i := 0)) ce_int rfl) (cs_cons (cs_set (i := 14) (ce_op op_addA p2_add (ce_tup (ca_cons ce_str ca_nil)) (ce_slice (ce_call (IH .f_law_f) (hr.mono (by omega)) rfl (Z.mg_ .f_law_f) (Z.keep .f_law_f) (Z.binds .f_law_f) (takes_of rfl rfl rfl rfl) (ca_cons (ce_var (i := 3)) (ca_cons (ce_tup (ca_cons (ce_tup (ca_cons ce_str (ca_cons ce_int (ca_cons ce_int (ca_cons (ce_op op_addA p2_add ce_int (ce_var (i := 1))) ca_nil))))) ca_nil)) (ca_cons (ce_tup ca_nil) ca_nil)))) (co_some ce_int) co_none)) nd_f_law_sized)
  (cs_one (cs_ret (ce_tup (ca_cons (ce_call (IH .f_law_f) (hr.mono (by omega)) rfl (Z.mg_ .f_law_f) (Z.keep .f_law_f) (Z.binds .f_law_f) (takes_of rfl rfl rfl rfl) (ca_cons (ce_var (i := 3)) (ca_cons (ce_tup (ca_cons (ce_var (i := 5)) ca_nil)) (ca_cons (ce_tup (ca_cons (ce_tup (ca_cons ce_str (ca_cons ce_str (ca_cons (ce_tup (ca_cons ce_int (ca_cons ce_int (ca_cons (ce_var (i := 2)) ca_nil)))) (ca_cons ce_str (ca_cons (ce_tup (ca_cons (ce_tup (ca_cons ce_str (ca_cons ce_int ca_nil))) ca_nil)) (ca_cons (ce_tup (ca_cons ce_str ca_nil)) ca_nil))))))) ca_nil)) ca_nil)))) (ca_cons (ce_var (i := 14)) ca_nil)))))) cs_nil)
  (cs_cons (cs_set (i := 15) (ce_tup (ca_cons ce_str (ca_cons (ce_var (i := 2)) (ca_cons (ce_tup (ca_cons (ce_tup (ca_cons ce_str (ca_cons (ce_tup (ca_cons ce_str (ca_cons ce_int ca_nil))) ca_nil))) ca_nil)) (ca_cons (ce_tup (ca_cons (ce_tup (ca_cons ce_str (ca_cons (ce_tup (ca_cons ce_str (ca_cons ce_int ca_nil))) ca_nil))) ca_nil)) ca_nil))))) nd_f_law_sized)
  (cs_one (cs_ret (ce_tup (ca_cons (ce_call (IH .f_law_f) (hr.mono (by omega)) rfl (Z.mg_ .f_law_f) (Z.keep .f_law_f) (Z.binds .f_law_f) (takes_of rfl rfl rfl rfl) (ca_cons (ce_var (i := 3)) (ca_cons (ce_tup ca_nil) (ca_cons (ce_if (ct_cmp (op_eqD (hu64 hr)) p2_eq (ce_var (i := 1)) ce_int rfl) (ce_tup (ca_cons (ce_tup (ca_cons ce_str (ca_cons (ce_var (i := 2)) (ca_cons (ce_tup (ca_cons (ce_var (i := 15)) ca_nil)) (ca_cons (ce_tup ca_nil) ca_nil))))) ca_nil)) (ce_tup (ca_cons (ce_var (i := 15)) ca_nil))) ca_nil)))) ca_nil)))))))))))))))))))))))))))
theorem sc_f_names_fit : FnScope (locOf .f_names_fit) (psOf .f_names_fit) (defScope (stOf .f_names_fit)) := ⟨rfl, rfl, rfl, by decide +kernel, rfl, by decide +kernel, by decide +kernel⟩
theorem nd_f_names_fit : (locOf .f_names_fit).Nodup := sc_f_names_fit.nd
theorem ok_f_names_fit (Z : Fx w K mg base T) {k : Nat} {cs : Fn → Fd} (IH : ∀ f, OkF P w K mg base T Z (4 * k) cs f) : FnOk P w K mg base (L2.CX P w) (4 * k + 3 + 1) (adr K .f_names_fit) (Z.fd .f_names_fit) (psOf .f_names_fit) (spF ⟨K, T, cadK K⟩ (psOf .f_names_fit).length (denF (psOf .f_names_fit).length (locOf .f_names_fit).length (bdOf .f_names_fit cs))) := by
  refine fn_bd Z .f_names_fit sc_f_names_fit fun cdv A outer s ρ0 H E hcd hr => ?_
  have tf := Z.tab_g .f_names_fit (by simp)
  have gt : GTab (cxOf (L2.CX P w) P w K mg base (locOf .f_names_fit) (nmOf .f_names_fit) (defScope (stOf .f_names_fit)) (adr K .f_names_fit) cdv A outer s H E) T (Z.cT .f_names_fit).1 (Z.cT .f_names_fit).2 := ⟨tf.tb, hcd.symm.trans tf.code, tf.mem, tf.uniq⟩
  show CSs _ _ _ (b_f_names_fit cs)
  unfold b_f_names_fit
  exact (cs_cons (cs_asg (ce_tup (ca_cons (ce_share (ce_callTy call_list_of pn_list rfl Z.no_list boot_list (ca_cons (ce_var (i := 3)) ca_nil))) (ca_cons (ce_share (ce_callTy call_list_of pn_list rfl Z.no_list boot_list (ca_cons (ce_var (i := 4)) ca_nil))) ca_nil))) (cg_tup rfl (cgs_cons (cg_name (i := 3) nd_f_names_fit) (cgs_cons (cg_name (i := 4) nd_f_names_fit) (cgs_nil (ts := []))))))
  (cs_cons (cs_for (passes_of rfl) rfl (ci_V (i := 2)) (cg_name (i := 5) nd_f_names_fit) (cs_cons (cs_if (ct_not (ct_tru (ce_call (IH .f_statement_fits) (hr.mono (by omega)) rfl (Z.mg_ .f_statement_fits) (Z.keep .f_statement_fits) (Z.binds .f_statement_fits) (takes_of rfl rfl rfl rfl) (ca_cons (ce_var (i := 0)) (ca_cons (ce_var (i := 1)) (ca_cons (ce_var (i := 5)) (ca_cons (ce_var (i := 3)) (ca_cons (ce_var (i := 4)) ca_nil)))))))) (cs_one (cs_ret ce_bl)) cs_nil)
  (cs_cons (cs_set (i := 6) (ce_if (ct_cmp (op_eqD (hu64 hr)) p2_eq (ce_ix (ix_any (hu_of hr)) p2_ix (ce_var (i := 5)) ce_int) ce_str rfl) (ce_slice (ce_var (i := 5)) (co_some ce_int) (co_some ce_int)) (ce_if (ct_cmp (op_eqD (hu64 hr)) p2_eq (ce_ix (ix_any (hu_of hr)) p2_ix (ce_var (i := 5)) ce_int) ce_str rfl) (ce_tup (ca_cons (ce_ix (ix_any (hu_of hr)) p2_ix (ce_var (i := 5)) ce_int) ca_nil)) (ce_tup ca_nil))) nd_f_names_fit)
  (cs_cons (cs_if (ct_not (ct_tru (ce_all (own := [("b", 7)]) (ts := [7]) hr rfl nd_f_names_fit (gsc_by (by show gscB (locOf .f_names_fit) (defScope (stOf .f_names_fit)) _ _ = true; decide +kernel)) gt (ci_E (ce_var (i := 6))) (fun _ _ _ _ _ _ _ => (cg_name (i := 7) nd_f_names_fit)) (fun _ _ _ _ _ _ _ => cts_nil) (fun _ _ _ _ _ _ _ => (ce_call (IH .f_names_fit) ((room_gen hr).mono (by omega)) rfl (Z.mg_ .f_names_fit) (Z.keep .f_names_fit) (Z.binds .f_names_fit) LamX.takes0 (ca_cons (ce_var (i := 0)) (ca_cons (ce_var (i := 1)) (ca_cons (ce_var (i := 7)) (ca_cons (ce_var (i := 3)) (ca_cons (ce_var (i := 4)) ca_nil))))))) (by decide) (fun _ => rfl) rfl Z.no_all))) (cs_one (cs_ret ce_bl)) cs_nil)
  (cs_one (cs_if (ct_cmp (op_inB (hu80 hr)) p2_inB (ce_ix (ix_any (hu_of hr)) p2_ix (ce_var (i := 5)) ce_int) (ce_tup (ca_cons ce_str (ca_cons ce_str (ca_cons ce_str ca_nil)))) rfl) (cs_cons (cs_app (ce_var (i := 3)) (ce_ix (ix_any (hu_of hr)) p2_ix (ce_var (i := 5)) ce_int))
  (cs_one (cs_app (ce_var (i := 4)) (ce_ix (ix_any (hu_of hr)) p2_ix (ce_var (i := 5)) ce_int)))) cs_nil))))))
  (cs_one (cs_ret ce_bl))))
theorem sc_f_is_type : FnScope (locOf .f_is_type) (psOf .f_is_type) (defScope (stOf .f_is_type)) := ⟨rfl, rfl, rfl, by decide +kernel, rfl, by decide +kernel, by decide +kernel⟩
theorem nd_f_is_type : (locOf .f_is_type).Nodup := sc_f_is_type.nd
theorem ok_f_is_type (Z : Fx w K mg base T) {k : Nat} {cs : Fn → Fd} (IH : ∀ f, OkF P w K mg base T Z (4 * k) cs f) : FnOk P w K mg base (L2.CX P w) (4 * k + 3 + 1) (adr K .f_is_type) (Z.fd .f_is_type) (psOf .f_is_type) (spF ⟨K, T, cadK K⟩ (psOf .f_is_type).length (denF (psOf .f_is_type).length (locOf .f_is_type).length (bdOf .f_is_type cs))) := by
  refine fn_bd Z .f_is_type sc_f_is_type fun cdv A outer s ρ0 H E hcd hr => ?_
  show CSs _ _ _ (b_f_is_type cs)
  unfold b_f_is_type
  exact (cs_cons (cs_if (PW.pt (ct_or (ct_cmp op_isNotA p2_isNot (ce_callTy call_type1 pn_type rfl Z.no_type boot_type (ca_cons (ce_var (i := 0)) ca_nil)) (ce_ty (T := "tuple") rfl Z.no_tuple boot_tuple) rfl) (ct_or (ct_cmp (op_neD (hu64 hr)) p2_ne (ce_callB call_lenA pn_len rfl Z.no_len boot_len (ca_cons (ce_var (i := 0)) ca_nil)) ce_int rfl) (ct_or (ct_not (ct_tru (ce_call (IH .f_is_number) (hr.mono (by omega)) rfl (Z.mg_ .f_is_number) (Z.keep .f_is_number) (Z.binds .f_is_number) (takes_of rfl rfl rfl rfl) (ca_cons (ce_ix (ix_any (hu_of hr)) p2_ix (ce_var (i := 0)) ce_int) ca_nil)))) (ct_or (ct_not (ct_tru (ce_call (IH .f_is_number) (hr.mono (by omega)) rfl (Z.mg_ .f_is_number) (Z.keep .f_is_number) (Z.binds .f_is_number) (takes_of rfl rfl rfl rfl) (ca_cons (ce_ix (ix_any (hu_of hr)) p2_ix (ce_var (i := 0)) ce_int) ca_nil)))) (pw_or1 (ct_cmp op_gt p2_gt (ce_ix (ix_any (hu_of hr)) p2_ix (ce_var (i := 0)) ce_int) (ce_ix (ix_any (hu_of hr)) p2_ix (ce_var (i := 0)) ce_int) rfl))))))) (cs_one (cs_ret ce_bl)) cs_nil)
  (cs_one (cs_ret (ce_call (IH .f_is_condition) (hr.mono (by omega)) rfl (Z.mg_ .f_is_condition) (Z.keep .f_is_condition) (Z.binds .f_is_condition) (takes_of rfl rfl rfl rfl) (ca_cons (ce_ix (ix_any (hu_of hr)) p2_ix (ce_var (i := 0)) ce_int) (ca_cons (ce_op op_addA p2_add (ce_callTy call_tuple_of pn_tuple rfl Z.no_tuple boot_tuple (ca_cons (ce_var (i := 1)) ca_nil)) (ce_tup (ca_cons ce_str ca_nil))) ca_nil))))))
theorem sc_f_is_name : FnScope (locOf .f_is_name) (psOf .f_is_name) (defScope (stOf .f_is_name)) := ⟨rfl, rfl, rfl, by decide +kernel, rfl, by decide +kernel, by decide +kernel⟩
theorem nd_f_is_name : (locOf .f_is_name).Nodup := sc_f_is_name.nd
theorem ok_f_is_name (Z : Fx w K mg base T) {k : Nat} {cs : Fn → Fd} (IH : ∀ f, OkF P w K mg base T Z (4 * k) cs f) : FnOk P w K mg base (L2.CX P w) (4 * k + 3 + 1) (adr K .f_is_name) (Z.fd .f_is_name) (psOf .f_is_name) (spF ⟨K, T, cadK K⟩ (psOf .f_is_name).length (denF (psOf .f_is_name).length (locOf .f_is_name).length (bdOf .f_is_name cs))) := by
  refine fn_bd Z .f_is_name sc_f_is_name fun cdv A outer s ρ0 H E hcd hr => ?_
  have tf := Z.tab_g .f_is_name (by simp)
  have gt : GTab (cxOf (L2.CX P w) P w K mg base (locOf .f_is_name) (nmOf .f_is_name) (defScope (stOf .f_is_name)) (adr K .f_is_name) cdv A outer s H E) T (Z.cT .f_is_name).1 (Z.cT .f_is_name).2 := ⟨tf.tb, hcd.symm.trans tf.code, tf.mem, tf.uniq⟩
  show CSs _ _ _ (b_f_is_name cs)
  unfold b_f_is_name
  exact (cs_cons (cs_if (PW.pt (ct_or (ct_cmp op_isNotA p2_isNot (ce_callTy call_type1 pn_type rfl Z.no_type boot_type (ca_cons (ce_var (i := 0)) ca_nil)) (ce_ty (T := "str") rfl Z.no_str boot_str) rfl) (ct_or (ct_not (ct_chain op_le op_le p2_le p2_le ce_int (ce_callB call_lenA pn_len rfl Z.no_len boot_len (ca_cons (ce_var (i := 0)) ca_nil)) ce_int)) (pw_or1 (ct_cmp (op_inB (hu80 hr)) p2_inB (ce_var (i := 0)) (ce_globD rfl Z.c_WORDS) rfl))))) (cs_one (cs_ret ce_bl)) cs_nil)
  (cs_one (cs_ret (ce_and (ce_cmp (op_inB (hu80 hr)) p2_inB (ce_ix (ix_any (hu_of hr)) p2_ix (ce_var (i := 0)) ce_int) (ce_slice (ce_globD rfl Z.c_SIGNS) co_none (co_some ce_int)) rfl) (ce_and1 (ce_all (own := [("sign", 1)]) (ts := [1]) hr rfl nd_f_is_name (gsc_by (by show gscB (locOf .f_is_name) (defScope (stOf .f_is_name)) _ _ = true; decide +kernel)) gt (ci_E (ce_var (i := 0))) (fun _ _ _ _ _ _ _ => (cg_name (i := 1) nd_f_is_name)) (fun _ _ _ _ _ _ _ => cts_nil) (fun _ _ _ _ _ _ _ => (ce_cmp (op_inB (hu80 (room_gen hr))) p2_inB (ce_var (i := 1)) (ce_globD rfl Z.c_SIGNS) rfl)) (by decide) (fun _ => rfl) rfl Z.no_all))))))
theorem sc_f_ends : FnScope (locOf .f_ends) (psOf .f_ends) (defScope (stOf .f_ends)) := ⟨rfl, rfl, rfl, by decide +kernel, rfl, by decide +kernel, by decide +kernel⟩
theorem nd_f_ends : (locOf .f_ends).Nodup := sc_f_ends.nd
theorem ok_f_ends (Z : Fx w K mg base T) {k : Nat} {cs : Fn → Fd} (IH : ∀ f, OkF P w K mg base T Z (4 * k) cs f) : FnOk P w K mg base (L2.CX P w) (4 * k + 3 + 1) (adr K .f_ends) (Z.fd .f_ends) (psOf .f_ends) (spF ⟨K, T, cadK K⟩ (psOf .f_ends).length (denF (psOf .f_ends).length (locOf .f_ends).length (bdOf .f_ends cs))) := by
  refine fn_bd Z .f_ends sc_f_ends fun cdv A outer s ρ0 H E hcd hr => ?_
  show CSs _ _ _ (b_f_ends cs)
  unfold b_f_ends
  exact (cs_cons (cs_if (ct_not (ct_tru (ce_var (i := 0)))) (cs_one (cs_ret ce_bl)) cs_nil)
  (cs_cons (cs_set (i := 1) (ce_ix (ix_any (hu_of hr)) p2_ix (ce_var (i := 0)) (ce_un un_neg p1_neg ce_int)) nd_f_ends)
  (cs_one (cs_ret (ce_or (ce_cmp (op_eqD (hu64 hr)) p2_eq (ce_ix (ix_any (hu_of hr)) p2_ix (ce_var (i := 1)) ce_int) ce_str rfl) (ce_or1 (ce_and (ce_cmp (op_eqD (hu64 hr)) p2_eq (ce_ix (ix_any (hu_of hr)) p2_ix (ce_var (i := 1)) ce_int) ce_str rfl) (ce_and (ce_call (IH .f_ends) (hr.mono (by omega)) rfl (Z.mg_ .f_ends) (Z.keep .f_ends) (Z.binds .f_ends) (takes_of rfl rfl rfl rfl) (ca_cons (ce_ix (ix_any (hu_of hr)) p2_ix (ce_var (i := 1)) ce_int) ca_nil)) (ce_and1 (ce_call (IH .f_ends) (hr.mono (by omega)) rfl (Z.mg_ .f_ends) (Z.keep .f_ends) (Z.binds .f_ends) (takes_of rfl rfl rfl rfl) (ca_cons (ce_ix (ix_any (hu_of hr)) p2_ix (ce_var (i := 1)) ce_int) ca_nil)))))))))))
theorem sc_f_law_chain : FnScope (locOf .f_law_chain) (psOf .f_law_chain) (defScope (stOf .f_law_chain)) := ⟨rfl, rfl, rfl, by decide +kernel, rfl, by decide +kernel, by decide +kernel⟩
theorem nd_f_law_chain : (locOf .f_law_chain).Nodup := sc_f_law_chain.nd
theorem ok_f_law_chain (Z : Fx w K mg base T) {k : Nat} {cs : Fn → Fd} (IH : ∀ f, OkF P w K mg base T Z (4 * k) cs f) : FnOk P w K mg base (L2.CX P w) (4 * k + 3 + 1) (adr K .f_law_chain) (Z.fd .f_law_chain) (psOf .f_law_chain) (spF ⟨K, T, cadK K⟩ (psOf .f_law_chain).length (denF (psOf .f_law_chain).length (locOf .f_law_chain).length (bdOf .f_law_chain cs))) := by
  refine fn_bd Z .f_law_chain sc_f_law_chain fun cdv A outer s ρ0 H E hcd hr => ?_
  show CSs _ _ _ (b_f_law_chain cs)
  unfold b_f_law_chain
  exact (cs_cons (cs_set (i := 2) (ce_tup (ca_cons ce_str (ca_cons ce_int ca_nil))) nd_f_law_chain)
  (cs_cons (cs_for (passes_of rfl) rfl (ci_range1 (fz := fzS _) rfl Z.no_range (ce_op op_sub p2_sub (ce_var (i := 0)) ce_int)) (cg_name (i := 3) nd_f_law_chain) (cs_one (cs_set (i := 2) (ce_tup (ca_cons ce_str (ca_cons (ce_var (i := 2)) (ca_cons (ce_tup (ca_cons ce_str (ca_cons ce_int ca_nil))) ca_nil)))) nd_f_law_chain)))
  (cs_one (cs_ret (ce_if (ct_tru (ce_var (i := 1))) (ce_tup (ca_cons ce_str (ca_cons ce_int (ca_cons (ce_var (i := 2)) ca_nil)))) (ce_var (i := 2)))))))
theorem sc_f_law_f : FnScope (locOf .f_law_f) (psOf .f_law_f) (defScope (stOf .f_law_f)) := ⟨rfl, rfl, rfl, by decide +kernel, rfl, by decide +kernel, by decide +kernel⟩
theorem nd_f_law_f : (locOf .f_law_f).Nodup := sc_f_law_f.nd
theorem ok_f_law_f (Z : Fx w K mg base T) {k : Nat} {cs : Fn → Fd} (IH : ∀ f, OkF P w K mg base T Z (4 * k) cs f) : FnOk P w K mg base (L2.CX P w) (4 * k + 3 + 1) (adr K .f_law_f) (Z.fd .f_law_f) (psOf .f_law_f) (spF ⟨K, T, cadK K⟩ (psOf .f_law_f).length (denF (psOf .f_law_f).length (locOf .f_law_f).length (bdOf .f_law_f cs))) := by
  refine fn_bd Z .f_law_f sc_f_law_f fun cdv A outer s ρ0 H E hcd hr => ?_
  show CSs _ _ _ (b_f_law_f cs)
  unfold b_f_law_f
  exact (cs_cons (cs_set (i := 3) (ce_tup (ca_cons ce_str ca_nil)) nd_f_law_f)
  (cs_one (cs_ret (ce_tup (ca_cons ce_str (ca_cons (ce_var (i := 0)) (ca_cons (ce_var (i := 1)) (ca_cons (ce_tup (ca_cons ce_str (ca_cons ce_int ca_nil))) (ca_cons (ce_tup (ca_cons (ce_op op_sub p2_sub ce_int ce_int) (ca_cons ce_int (ca_cons (ce_var (i := 3)) ca_nil)))) (ca_cons (ce_op op_addA p2_add (ce_var (i := 2)) (ce_tup (ca_cons (ce_tup (ca_cons ce_str (ca_cons (ce_tup (ca_cons ce_str (ca_cons ce_int ca_nil))) ca_nil))) ca_nil))) ca_nil))))))))))
theorem sc_f_is_expression : FnScope (locOf .f_is_expression) (psOf .f_is_expression) (defScope (stOf .f_is_expression)) := ⟨rfl, rfl, rfl, by decide +kernel, rfl, by decide +kernel, by decide +kernel⟩
theorem nd_f_is_expression : (locOf .f_is_expression).Nodup := sc_f_is_expression.nd
theorem ok_f_is_expression (Z : Fx w K mg base T) {k : Nat} {cs : Fn → Fd} (IH : ∀ f, OkF P w K mg base T Z (4 * k) cs f) : FnOk P w K mg base (L2.CX P w) (4 * k + 3 + 1) (adr K .f_is_expression) (Z.fd .f_is_expression) (psOf .f_is_expression) (spF ⟨K, T, cadK K⟩ (psOf .f_is_expression).length (denF (psOf .f_is_expression).length (locOf .f_is_expression).length (bdOf .f_is_expression cs))) := by
  refine fn_bd Z .f_is_expression sc_f_is_expression fun cdv A outer s ρ0 H E hcd hr => ?_
  show CSs _ _ _ (b_f_is_expression cs)
  unfold b_f_is_expression
  exact (cs_one (cs_ret (ce_chain op_le op_le p2_le p2_le ce_int (ce_call (IH .f_expression_parts) (hr.mono (by omega)) rfl (Z.mg_ .f_expression_parts) (Z.keep .f_expression_parts) (Z.binds .f_expression_parts) (takes_of rfl rfl rfl rfl) (ca_cons (ce_var (i := 0)) (ca_cons (ce_var (i := 1)) ca_nil))) ce_int)))
end
end Sk25
set_option Elab.async false
set_option linter.all false
set_option maxRecDepth 100000
set_option maxHeartbeats 4000000
namespace Sk25
open PySem PySem.Spec PyProof.Rows L2 Sh
section
variable {P : Program} {w : World} {K : PySem.W.Frag} {mg : Str → Option Value} {base : Heap} {T : List (Addr × Str)}
theorem sc_f_statement : FnScope (locOf .f_statement) (psOf .f_statement) (defScope (stOf .f_statement)) := ⟨rfl, rfl, rfl, by decide +kernel, rfl, by decide +kernel, by decide +kernel⟩
theorem nd_f_statement : (locOf .f_statement).Nodup := sc_f_statement.nd
theorem ok_f_statement (Z : Fx w K mg base T) {k : Nat} {cs : Fn → Fd} (IH : ∀ f, OkF P w K mg base T Z (4 * k) cs f) : FnOk P w K mg base (L2.CX P w) (4 * k + 3 + 1) (adr K .f_statement) (Z.fd .f_statement) (psOf .f_statement) (spF ⟨K, T, cadK K⟩ (psOf .f_statement).length (denF (psOf .f_statement).length (locOf .f_statement).length (bdOf .f_statement cs))) := by
  refine fn_bd Z .f_statement sc_f_statement fun cdv A outer s ρ0 H E hcd hr => ?_
  show CSs _ _ _ (b_f_statement cs)
  unfold b_f_statement
  exact (cs_cons (cs_set (i := 2) (ce_ix (ix_any (hu_of hr)) p2_ix (ce_var (i := 0)) ce_int) nd_f_statement)
  (cs_cons (cs_if (ct_cmp (op_eqD (hu64 hr)) p2_eq (ce_var (i := 2)) ce_str rfl) (cs_cons (cs_set (i := 3) (ce_op op_addA p2_add (ce_lst (ca_cons (ce_op op_addA p2_add (ce_op op_addA p2_add (ce_var (i := 1)) ce_str) (ce_call (IH .f_condition) (hr.mono (by omega)) rfl (Z.mg_ .f_condition) (Z.keep .f_condition) (Z.binds .f_condition) (takes_of rfl rfl rfl rfl) (ca_cons (ce_ix (ix_any (hu_of hr)) p2_ix (ce_var (i := 0)) ce_int) ca_nil))) ca_nil)) (ce_call (IH .f_block_rows) (hr.mono (by omega)) rfl (Z.mg_ .f_block_rows) (Z.keep .f_block_rows) (Z.binds .f_block_rows) (takes_of rfl rfl rfl rfl) (ca_cons (ce_ix (ix_any (hu_of hr)) p2_ix (ce_var (i := 0)) ce_int) (ca_cons (ce_op op_addA p2_add (ce_var (i := 1)) ce_str) ca_nil)))) nd_f_statement)
  (cs_one (cs_ret (ce_op op_addA p2_add (ce_var (i := 3)) (ce_if (ct_tru (ce_ix (ix_any (hu_of hr)) p2_ix (ce_var (i := 0)) ce_int)) (ce_op op_addA p2_add (ce_lst (ca_cons (ce_op op_addA p2_add (ce_var (i := 1)) ce_str) ca_nil)) (ce_call (IH .f_block_rows) (hr.mono (by omega)) rfl (Z.mg_ .f_block_rows) (Z.keep .f_block_rows) (Z.binds .f_block_rows) (takes_of rfl rfl rfl rfl) (ca_cons (ce_ix (ix_any (hu_of hr)) p2_ix (ce_var (i := 0)) ce_int) (ca_cons (ce_op op_addA p2_add (ce_var (i := 1)) ce_str) ca_nil)))) (ce_lst ca_nil)))))) cs_nil)
  (cs_cons (cs_if (ct_cmp (op_eqD (hu64 hr)) p2_eq (ce_var (i := 2)) ce_str rfl) (cs_cons (cs_set (i := 4) (ce_op op_addA p2_add (ce_op op_addA p2_add (ce_op op_addA p2_add (ce_op op_addA p2_add (ce_op op_addA p2_add ce_str (ce_call (IH .f_condition) (hr.mono (by omega)) rfl (Z.mg_ .f_condition) (Z.keep .f_condition) (Z.binds .f_condition) (takes_of rfl rfl rfl rfl) (ca_cons (ce_ix (ix_any (hu_of hr)) p2_ix (ce_var (i := 0)) ce_int) ca_nil))) ce_str) (ce_call (IH .f_condition) (hr.mono (by omega)) rfl (Z.mg_ .f_condition) (Z.keep .f_condition) (Z.binds .f_condition) (takes_of rfl rfl rfl rfl) (ca_cons (ce_ix (ix_any (hu_of hr)) p2_ix (ce_var (i := 0)) ce_int) ca_nil))) ce_str) (ce_call (IH .f_expression) (hr.mono (by omega)) rfl (Z.mg_ .f_expression) (Z.keep .f_expression) (Z.binds .f_expression) (takes_of rfl rfl rfl rfl) (ca_cons (ce_ix (ix_any (hu_of hr)) p2_ix (ce_var (i := 0)) ce_int) ca_nil))) nd_f_statement)
  (cs_one (cs_ret (ce_op op_addA p2_add (ce_lst (ca_cons (ce_op op_addA p2_add (ce_var (i := 1)) (ce_var (i := 4))) ca_nil)) (ce_call (IH .f_block_rows) (hr.mono (by omega)) rfl (Z.mg_ .f_block_rows) (Z.keep .f_block_rows) (Z.binds .f_block_rows) (takes_of rfl rfl rfl rfl) (ca_cons (ce_ix (ix_any (hu_of hr)) p2_ix (ce_var (i := 0)) ce_int) (ca_cons (ce_op op_addA p2_add (ce_var (i := 1)) ce_str) ca_nil))))))) cs_nil)
  (cs_cons (cs_if (ct_cmp (op_inB (hu80 hr)) p2_inB (ce_var (i := 2)) (ce_tup (ca_cons ce_str (ca_cons ce_str (ca_cons ce_str ca_nil)))) rfl) (cs_cons (cs_set (i := 5) (ce_op op_addA p2_add (ce_op op_addA p2_add (ce_op op_addA p2_add (ce_op op_addA p2_add (ce_op op_addA p2_add (ce_var (i := 2)) ce_str) (ce_ix (ix_any (hu_of hr)) p2_ix (ce_var (i := 0)) ce_int)) ce_str) (ce_call (IH .f_type_text) (hr.mono (by omega)) rfl (Z.mg_ .f_type_text) (Z.keep .f_type_text) (Z.binds .f_type_text) (takes_of rfl rfl rfl rfl) (ca_cons (ce_ix (ix_any (hu_of hr)) p2_ix (ce_var (i := 0)) ce_int) ca_nil))) ce_str) nd_f_statement)
  (cs_one (cs_if (ct_cmp (op_eqD (hu64 hr)) p2_eq (ce_var (i := 2)) ce_str rfl) (cs_one (cs_aug (i := 5) iop_addA pi_add (ce_call (IH .f_expression) (hr.mono (by omega)) rfl (Z.mg_ .f_expression) (Z.keep .f_expression) (Z.binds .f_expression) (takes_of rfl rfl rfl rfl) (ca_cons (ce_ix (ix_any (hu_of hr)) p2_ix (ce_var (i := 0)) ce_int) ca_nil)) nd_f_statement)) (cs_one (cs_if (ct_cmp (op_eqD (hu64 hr)) p2_eq (ce_var (i := 2)) ce_str rfl) (cs_one (cs_aug (i := 5) iop_addA pi_add (ce_call (IH .f_call_text) (hr.mono (by omega)) rfl (Z.mg_ .f_call_text) (Z.keep .f_call_text) (Z.binds .f_call_text) (takes_of rfl rfl rfl rfl) (ca_cons (ce_ix (ix_any (hu_of hr)) p2_ix (ce_var (i := 0)) ce_int) (ca_cons (ce_ix (ix_any (hu_of hr)) p2_ix (ce_var (i := 0)) ce_int) (ca_cons (ce_ix (ix_any (hu_of hr)) p2_ix (ce_var (i := 0)) ce_int) ca_nil)))) nd_f_statement)) (cs_one (cs_aug (i := 5) iop_addA pi_add (ce_op op_addA p2_add (ce_op op_addA p2_add (ce_op op_addA p2_add (ce_ix (ix_any (hu_of hr)) p2_ix (ce_var (i := 0)) ce_int) ce_str) (ce_call (IH .f_expression) (hr.mono (by omega)) rfl (Z.mg_ .f_expression) (Z.keep .f_expression) (Z.binds .f_expression) (takes_of rfl rfl rfl rfl) (ca_cons (ce_ix (ix_any (hu_of hr)) p2_ix (ce_var (i := 0)) ce_int) ca_nil))) ce_str) nd_f_statement))))))) (cs_one (cs_if (ct_cmp (op_eqD (hu64 hr)) p2_eq (ce_var (i := 2)) ce_str rfl) (cs_one (cs_set (i := 5) (ce_op op_addA p2_add (ce_op op_addA p2_add (ce_op op_addA p2_add ce_str (ce_ix (ix_any (hu_of hr)) p2_ix (ce_var (i := 0)) ce_int)) ce_str) (ce_call (IH .f_expression) (hr.mono (by omega)) rfl (Z.mg_ .f_expression) (Z.keep .f_expression) (Z.binds .f_expression) (takes_of rfl rfl rfl rfl) (ca_cons (ce_ix (ix_any (hu_of hr)) p2_ix (ce_var (i := 0)) ce_int) ca_nil))) nd_f_statement)) (cs_one (cs_if (ct_cmp (op_eqD (hu64 hr)) p2_eq (ce_var (i := 2)) ce_str rfl) (cs_one (cs_set (i := 5) (ce_op op_addA p2_add (ce_op op_addA p2_add (ce_op op_addA p2_add (ce_op op_addA p2_add (ce_op op_addA p2_add ce_str (ce_ix (ix_any (hu_of hr)) p2_ix (ce_var (i := 0)) ce_int)) ce_str) (ce_call (IH .f_expression) (hr.mono (by omega)) rfl (Z.mg_ .f_expression) (Z.keep .f_expression) (Z.binds .f_expression) (takes_of rfl rfl rfl rfl) (ca_cons (ce_ix (ix_any (hu_of hr)) p2_ix (ce_var (i := 0)) ce_int) ca_nil))) ce_str) (ce_call (IH .f_expression) (hr.mono (by omega)) rfl (Z.mg_ .f_expression) (Z.keep .f_expression) (Z.binds .f_expression) (takes_of rfl rfl rfl rfl) (ca_cons (ce_ix (ix_any (hu_of hr)) p2_ix (ce_var (i := 0)) ce_int) ca_nil))) nd_f_statement)) (cs_one (cs_if (ct_cmp (op_eqD (hu64 hr)) p2_eq (ce_var (i := 2)) ce_str rfl) (cs_one (cs_set (i := 5) (ce_op op_addA p2_add ce_str (ce_call (IH .f_condition) (hr.mono (by omega)) rfl (Z.mg_ .f_condition) (Z.keep .f_condition) (Z.binds .f_condition) (takes_of rfl rfl rfl rfl) (ca_cons (ce_ix (ix_any (hu_of hr)) p2_ix (ce_var (i := 0)) ce_int) ca_nil))) nd_f_statement)) (cs_one (cs_set (i := 5) (ce_op op_addA p2_add ce_str (ce_call (IH .f_expression) (hr.mono (by omega)) rfl (Z.mg_ .f_expression) (Z.keep .f_expression) (Z.binds .f_expression) (takes_of rfl rfl rfl rfl) (ca_cons (ce_ix (ix_any (hu_of hr)) p2_ix (ce_var (i := 0)) ce_int) ca_nil))) nd_f_statement)))))))))
  (cs_one (cs_ret (ce_lst (ca_cons (ce_op op_addA p2_add (ce_var (i := 1)) (ce_var (i := 5))) ca_nil))))))))
theorem sc_f_call_fits : FnScope (locOf .f_call_fits) (psOf .f_call_fits) (defScope (stOf .f_call_fits)) := ⟨rfl, rfl, rfl, by decide +kernel, rfl, by decide +kernel, by decide +kernel⟩
theorem nd_f_call_fits : (locOf .f_call_fits).Nodup := sc_f_call_fits.nd
theorem ok_f_call_fits (Z : Fx w K mg base T) {k : Nat} {cs : Fn → Fd} (IH : ∀ f, OkF P w K mg base T Z (4 * k) cs f) : FnOk P w K mg base (L2.CX P w) (4 * k + 3 + 1) (adr K .f_call_fits) (Z.fd .f_call_fits) (psOf .f_call_fits) (spF ⟨K, T, cadK K⟩ (psOf .f_call_fits).length (denF (psOf .f_call_fits).length (locOf .f_call_fits).length (bdOf .f_call_fits cs))) := by
  refine fn_bd Z .f_call_fits sc_f_call_fits fun cdv A outer s ρ0 H E hcd hr => ?_
  have tf := Z.tab_g .f_call_fits (by simp)
  have gt : GTab (cxOf (L2.CX P w) P w K mg base (locOf .f_call_fits) (nmOf .f_call_fits) (defScope (stOf .f_call_fits)) (adr K .f_call_fits) cdv A outer s H E) T (Z.cT .f_call_fits).1 (Z.cT .f_call_fits).2 := ⟨tf.tb, hcd.symm.trans tf.code, tf.mem, tf.uniq⟩
  show CSs _ _ _ (b_f_call_fits cs)
  unfold b_f_call_fits
  exact (cs_cons (cs_set (i := 4) (ce_if (ct_cmp op_isA p2_is (ce_callTy call_type1 pn_type rfl Z.no_type boot_type (ca_cons (ce_ix (ix_any (hu_of hr)) p2_ix (ce_var (i := 2)) ce_int) ca_nil)) (ce_ty (T := "str") rfl Z.no_str boot_str) rfl) (ce_get1 (hu_of hr) (ce_var (i := 0)) (ce_ix (ix_any (hu_of hr)) p2_ix (ce_var (i := 2)) ce_int) ⟨rfl, rfl, rfl, rfl⟩) ce_non) nd_f_call_fits)
  (cs_cons (cs_if (PW.pt (ct_or (ct_cmp op_isA p2_is (ce_var (i := 4)) ce_non rfl) (ct_or (ct_cmp op_isNotA p2_isNot (ce_callTy call_type1 pn_type rfl Z.no_type boot_type (ca_cons (ce_ix (ix_any (hu_of hr)) p2_ix (ce_var (i := 2)) ce_int) ca_nil)) (ce_ty (T := "tuple") rfl Z.no_tuple boot_tuple) rfl) (pw_or1 (ct_cmp op_isNotA p2_isNot (ce_callTy call_type1 pn_type rfl Z.no_type boot_type (ca_cons (ce_ix (ix_any (hu_of hr)) p2_ix (ce_var (i := 2)) ce_int) ca_nil)) (ce_ty (T := "tuple") rfl Z.no_tuple boot_tuple) rfl))))) (cs_one (cs_ret ce_bl)) cs_nil)
  (cs_cons (cs_if (PW.pt (ct_or (ct_cmp (op_neD (hu64 hr)) p2_ne (ce_callB call_lenA pn_len rfl Z.no_len boot_len (ca_cons (ce_ix (ix_any (hu_of hr)) p2_ix (ce_var (i := 2)) ce_int) ca_nil)) (ce_callB call_lenA pn_len rfl Z.no_len boot_len (ca_cons (ce_ix (ix_any (hu_of hr)) p2_ix (ce_var (i := 4)) ce_int) ca_nil)) rfl) (ct_or (ct_cmp (op_neD (hu64 hr)) p2_ne (ce_callB call_lenA pn_len rfl Z.no_len boot_len (ca_cons (ce_ix (ix_any (hu_of hr)) p2_ix (ce_var (i := 2)) ce_int) ca_nil)) (ce_callB call_lenA pn_len rfl Z.no_len boot_len (ca_cons (ce_ix (ix_any (hu_of hr)) p2_ix (ce_var (i := 4)) ce_int) ca_nil)) rfl) (pw_or1 (ct_not (ct_tru (ce_all (own := [("e", 5)]) (ts := [5]) hr rfl nd_f_call_fits (gsc_by (by show gscB (locOf .f_call_fits) (defScope (stOf .f_call_fits)) _ _ = true; decide +kernel)) gt (ci_E (ce_ix (ix_any (hu_of hr)) p2_ix (ce_var (i := 2)) ce_int)) (fun _ _ _ _ _ _ _ => (cg_name (i := 5) nd_f_call_fits)) (fun _ _ _ _ _ _ _ => cts_nil) (fun _ _ _ _ _ _ _ => (ce_call (IH .f_is_expression) ((room_gen hr).mono (by omega)) rfl (Z.mg_ .f_is_expression) (Z.keep .f_is_expression) (Z.binds .f_is_expression) LamX.takes0 (ca_cons (ce_var (i := 5)) (ca_cons (ce_var (i := 3)) ca_nil)))) (by decide) (fun _ => rfl) rfl Z.no_all))))))) (cs_one (cs_ret ce_bl)) cs_nil)
  (cs_cons (cs_set (i := 6) (ce_dc (own := [("r", 7)]) (ts := [7]) rfl nd_f_call_fits (blkOk_by (by show blkC (locOf .f_call_fits) (defScope (stOf .f_call_fits)) _ _ = true; decide +kernel)) (ci_E (ce_ix (ix_any (hu_of hr)) p2_ix (ce_var (i := 1)) ce_int)) (fun _ _ _ _ _ => (cg_name (i := 7) nd_f_call_fits)) (fun _ _ _ _ _ => cts_nil) (fun _ _ _ _ _ => (ce_ix (ix_any (hu_of hr)) p2_ix (ce_var (i := 7)) ce_int)) (fun _ _ _ _ _ => (ce_slice (ce_var (i := 7)) (co_some ce_int) co_none)) (by decide)) nd_f_call_fits)
  (cs_cons (cs_if (PW.pt (ct_or (ct_not (ct_tru (ce_all (own := [("r", 7)]) (ts := [7]) hr rfl nd_f_call_fits (gsc_by (by show gscB (locOf .f_call_fits) (defScope (stOf .f_call_fits)) _ _ = true; decide +kernel)) gt (ci_E (ce_ix (ix_any (hu_of hr)) p2_ix (ce_var (i := 2)) ce_int)) (fun _ _ _ _ _ _ _ => (cg_name (i := 7) nd_f_call_fits)) (fun _ _ _ _ _ _ _ => cts_nil) (fun _ _ _ _ _ _ _ => (ce_and (ce_cmp op_isA p2_is (ce_callTy call_type1 pn_type rfl Z.no_type boot_type (ca_cons (ce_var (i := 7)) ca_nil)) (ce_ty (T := "str") rfl Z.no_str boot_str) rfl) (ce_and1 (ce_cmp (op_inB (hu80 (room_gen hr))) p2_inB (ce_var (i := 7)) (ce_var (i := 6)) rfl)))) (by decide) (fun _ => rfl) rfl Z.no_all))) (pw_or1 (ct_cmp (op_neD (hu64 hr)) p2_ne (ce_lenSet rfl rfl Z.no_len rfl Z.no_set (ce_ix (ix_any (hu_of hr)) p2_ix (ce_var (i := 2)) ce_int)) (ce_callB call_lenA pn_len rfl Z.no_len boot_len (ca_cons (ce_ix (ix_any (hu_of hr)) p2_ix (ce_var (i := 2)) ce_int) ca_nil)) rfl)))) (cs_one (cs_ret ce_bl)) cs_nil)
  (cs_one (cs_ret (ce_all (own := [("r", 7), ("h", 8)]) (ts := ([7] ++ ([8] ++ []))) hr rfl nd_f_call_fits (gsc_by (by show gscB (locOf .f_call_fits) (defScope (stOf .f_call_fits)) _ _ = true; decide +kernel)) gt (ci_zipE rfl Z.no_zip (ca_cons (ce_ix (ix_any (hu_of hr)) p2_ix (ce_var (i := 2)) ce_int) (ca_cons (ce_ix (ix_any (hu_of hr)) p2_ix (ce_var (i := 4)) ce_int) ca_nil))) (fun _ _ _ _ _ _ _ => (cg_tup rfl (cgs_cons (cg_name (i := 7) nd_f_call_fits) (cgs_cons (cg_name (i := 8) nd_f_call_fits) (cgs_nil (ts := [])))))) (fun _ _ _ _ _ _ _ => cts_nil) (fun _ _ _ _ _ _ _ => (ce_cmp (op_eqD (hu64 (room_gen hr))) p2_eq (ce_ix (ix_any (hu_of (room_gen hr))) p2_ix (ce_var (i := 6)) (ce_var (i := 7))) (ce_slice (ce_var (i := 8)) (co_some ce_int) co_none) rfl)) (by decide) (fun _ => rfl) rfl Z.no_all))))))))
theorem sc_f_block_fits : FnScope (locOf .f_block_fits) (psOf .f_block_fits) (defScope (stOf .f_block_fits)) := ⟨rfl, rfl, rfl, by decide +kernel, rfl, by decide +kernel, by decide +kernel⟩
theorem nd_f_block_fits : (locOf .f_block_fits).Nodup := sc_f_block_fits.nd
theorem ok_f_block_fits (Z : Fx w K mg base T) {k : Nat} {cs : Fn → Fd} (IH : ∀ f, OkF P w K mg base T Z (4 * k) cs f) : FnOk P w K mg base (L2.CX P w) (4 * k + 3 + 1) (adr K .f_block_fits) (Z.fd .f_block_fits) (psOf .f_block_fits) (spF ⟨K, T, cadK K⟩ (psOf .f_block_fits).length (denF (psOf .f_block_fits).length (locOf .f_block_fits).length (bdOf .f_block_fits cs))) := by
  refine fn_bd Z .f_block_fits sc_f_block_fits fun cdv A outer s ρ0 H E hcd hr => ?_
  show CSs _ _ _ (b_f_block_fits cs)
  unfold b_f_block_fits
  exact (cs_cons (cs_if (PW.pt (ct_or (ct_cmp op_isNotA p2_isNot (ce_callTy call_type1 pn_type rfl Z.no_type boot_type (ca_cons (ce_var (i := 0)) ca_nil)) (ce_ty (T := "tuple") rfl Z.no_tuple boot_tuple) rfl) (pw_or1 (ct_cmp op_gt p2_gt (ce_var (i := 1)) ce_int rfl)))) (cs_one (cs_ret ce_bl)) cs_nil)
  (cs_cons (cs_for (passes_of rfl) rfl (ci_en rfl Z.no_enumerate (csrc_V (i := 0))) (cg_tup rfl (cgs_cons (cg_name (i := 2) nd_f_block_fits) (cgs_cons (cg_name (i := 3) nd_f_block_fits) (cgs_nil (ts := []))))) (cs_cons (cs_if (PW.pt (ct_or (ct_cmp op_isNotA p2_isNot (ce_callTy call_type1 pn_type rfl Z.no_type boot_type (ca_cons (ce_var (i := 3)) ca_nil)) (ce_ty (T := "tuple") rfl Z.no_tuple boot_tuple) rfl) (ct_or (ct_not (ct_tru (ce_var (i := 3)))) (ct_or (ct_cmp op_isNotA p2_isNot (ce_callTy call_type1 pn_type rfl Z.no_type boot_type (ca_cons (ce_ix (ix_any (hu_of hr)) p2_ix (ce_var (i := 3)) ce_int) ca_nil)) (ce_ty (T := "str") rfl Z.no_str boot_str) rfl) (pw_or1 (ct_cmp (op_neD (hu64 hr)) p2_ne (ce_kget rfl Z.g_SIZES Z.t_SIZES (ce_ix (ix_any (hu_of hr)) p2_ix (ce_var (i := 3)) ce_int) ⟨rfl, rfl, rfl, rfl⟩) (ce_callB call_lenA pn_len rfl Z.no_len boot_len (ca_cons (ce_var (i := 3)) ca_nil)) rfl)))))) (cs_one (cs_ret ce_bl)) cs_nil)
  (cs_cons (cs_if (PW.pt (ct_and (ct_cmp (op_eqD (hu64 hr)) p2_eq (ce_ix (ix_any (hu_of hr)) p2_ix (ce_var (i := 3)) ce_int) ce_str rfl) (pw_and1 (ct_not (PW.pt (ct_and (ct_tru (ce_call (IH .f_block_fits) (hr.mono (by omega)) rfl (Z.mg_ .f_block_fits) (Z.keep .f_block_fits) (Z.binds .f_block_fits) (takes_of rfl rfl rfl rfl) (ca_cons (ce_ix (ix_any (hu_of hr)) p2_ix (ce_var (i := 3)) ce_int) (ca_cons (ce_op op_addA p2_add (ce_var (i := 1)) ce_int) ca_nil)))) (pw_and1 (ct_tru (ce_call (IH .f_block_fits) (hr.mono (by omega)) rfl (Z.mg_ .f_block_fits) (Z.keep .f_block_fits) (Z.binds .f_block_fits) (takes_of rfl rfl rfl rfl) (ca_cons (ce_ix (ix_any (hu_of hr)) p2_ix (ce_var (i := 3)) ce_int) (ca_cons (ce_op op_addA p2_add (ce_var (i := 1)) ce_int) ca_nil))))))))))) (cs_one (cs_ret ce_bl)) cs_nil)
  (cs_cons (cs_if (PW.pt (ct_and (ct_cmp (op_eqD (hu64 hr)) p2_eq (ce_ix (ix_any (hu_of hr)) p2_ix (ce_var (i := 3)) ce_int) ce_str rfl) (pw_and1 (ct_not (ct_tru (ce_call (IH .f_block_fits) (hr.mono (by omega)) rfl (Z.mg_ .f_block_fits) (Z.keep .f_block_fits) (Z.binds .f_block_fits) (takes_of rfl rfl rfl rfl) (ca_cons (ce_ix (ix_any (hu_of hr)) p2_ix (ce_var (i := 3)) ce_int) (ca_cons (ce_op op_addA p2_add (ce_var (i := 1)) ce_int) ca_nil)))))))) (cs_one (cs_ret ce_bl)) cs_nil)
  (cs_one (cs_if (PW.pt (ct_and (ct_cmp op_lt p2_lt (ce_op op_addA p2_add (ce_var (i := 2)) ce_int) (ce_callB call_lenA pn_len rfl Z.no_len boot_len (ca_cons (ce_var (i := 0)) ca_nil)) rfl) (pw_and1 (PW.pt (ct_or (ct_cmp (op_eqD (hu64 hr)) p2_eq (ce_ix (ix_any (hu_of hr)) p2_ix (ce_var (i := 3)) ce_int) ce_str rfl) (pw_or1 (PW.pt (ct_and (ct_cmp (op_eqD (hu64 hr)) p2_eq (ce_ix (ix_any (hu_of hr)) p2_ix (ce_var (i := 3)) ce_int) ce_str rfl) (ct_and (ct_tru (ce_call (IH .f_ends) (hr.mono (by omega)) rfl (Z.mg_ .f_ends) (Z.keep .f_ends) (Z.binds .f_ends) (takes_of rfl rfl rfl rfl) (ca_cons (ce_ix (ix_any (hu_of hr)) p2_ix (ce_var (i := 3)) ce_int) ca_nil))) (pw_and1 (ct_tru (ce_call (IH .f_ends) (hr.mono (by omega)) rfl (Z.mg_ .f_ends) (Z.keep .f_ends) (Z.binds .f_ends) (takes_of rfl rfl rfl rfl) (ca_cons (ce_ix (ix_any (hu_of hr)) p2_ix (ce_var (i := 3)) ce_int) ca_nil))))))))))))) (cs_one (cs_ret ce_bl)) cs_nil))))))
  (cs_one (cs_ret ce_bl))))
theorem sc_f_condition : FnScope (locOf .f_condition) (psOf .f_condition) (defScope (stOf .f_condition)) := ⟨rfl, rfl, rfl, by decide +kernel, rfl, by decide +kernel, by decide +kernel⟩
theorem nd_f_condition : (locOf .f_condition).Nodup := sc_f_condition.nd
theorem ok_f_condition (Z : Fx w K mg base T) {k : Nat} {cs : Fn → Fd} (IH : ∀ f, OkF P w K mg base T Z (4 * k) cs f) : FnOk P w K mg base (L2.CX P w) (4 * k + 3 + 1) (adr K .f_condition) (Z.fd .f_condition) (psOf .f_condition) (spF ⟨K, T, cadK K⟩ (psOf .f_condition).length (denF (psOf .f_condition).length (locOf .f_condition).length (bdOf .f_condition cs))) := by
  refine fn_bd Z .f_condition sc_f_condition fun cdv A outer s ρ0 H E hcd hr => ?_
  show CSs _ _ _ (b_f_condition cs)
  unfold b_f_condition
  exact (cs_cons (cs_set (i := 1) (ce_ix (ix_any (hu_of hr)) p2_ix (ce_var (i := 0)) ce_int) nd_f_condition)
  (cs_cons (cs_if (ct_cmp (op_eqD (hu64 hr)) p2_eq (ce_var (i := 1)) ce_str rfl) (cs_one (cs_ret ce_str)) cs_nil)
  (cs_cons (cs_if (ct_cmp (op_eqD (hu64 hr)) p2_eq (ce_var (i := 1)) ce_str rfl) (cs_one (cs_ret (ce_op op_addA p2_add ce_str (ce_call (IH .f_held) (hr.mono (by omega)) rfl (Z.mg_ .f_held) (Z.keep .f_held) (Z.binds .f_held) (takes_of rfl rfl rfl rfl) (ca_cons (ce_ix (ix_any (hu_of hr)) p2_ix (ce_var (i := 0)) ce_int) (ca_cons (ce_tup (ca_cons ce_str (ca_cons ce_str ca_nil))) ca_nil)))))) cs_nil)
  (cs_cons (cs_if (ct_cmp (op_eqD (hu64 hr)) p2_eq (ce_var (i := 1)) ce_str rfl) (cs_one (cs_ret (ce_op op_addA p2_add (ce_op op_addA p2_add (ce_call (IH .f_held) (hr.mono (by omega)) rfl (Z.mg_ .f_held) (Z.keep .f_held) (Z.binds .f_held) (takes_of rfl rfl rfl rfl) (ca_cons (ce_ix (ix_any (hu_of hr)) p2_ix (ce_var (i := 0)) ce_int) (ca_cons (ce_tup (ca_cons ce_str ca_nil)) ca_nil))) ce_str) (ce_call (IH .f_held) (hr.mono (by omega)) rfl (Z.mg_ .f_held) (Z.keep .f_held) (Z.binds .f_held) (takes_of rfl rfl rfl rfl) (ca_cons (ce_ix (ix_any (hu_of hr)) p2_ix (ce_var (i := 0)) ce_int) (ca_cons (ce_tup (ca_cons ce_str (ca_cons ce_str ca_nil))) ca_nil)))))) cs_nil)
  (cs_cons (cs_if (ct_cmp (op_eqD (hu64 hr)) p2_eq (ce_var (i := 1)) ce_str rfl) (cs_one (cs_ret (ce_op op_addA p2_add (ce_op op_addA p2_add (ce_call (IH .f_condition) (hr.mono (by omega)) rfl (Z.mg_ .f_condition) (Z.keep .f_condition) (Z.binds .f_condition) (takes_of rfl rfl rfl rfl) (ca_cons (ce_ix (ix_any (hu_of hr)) p2_ix (ce_var (i := 0)) ce_int) ca_nil)) ce_str) (ce_call (IH .f_held) (hr.mono (by omega)) rfl (Z.mg_ .f_held) (Z.keep .f_held) (Z.binds .f_held) (takes_of rfl rfl rfl rfl) (ca_cons (ce_ix (ix_any (hu_of hr)) p2_ix (ce_var (i := 0)) ce_int) (ca_cons (ce_tup (ca_cons ce_str ca_nil)) ca_nil)))))) cs_nil)
  (cs_one (cs_ret (ce_op op_addA p2_add (ce_op op_addA p2_add (ce_op op_addA p2_add (ce_op op_addA p2_add (ce_call (IH .f_expression) (hr.mono (by omega)) rfl (Z.mg_ .f_expression) (Z.keep .f_expression) (Z.binds .f_expression) (takes_of rfl rfl rfl rfl) (ca_cons (ce_ix (ix_any (hu_of hr)) p2_ix (ce_var (i := 0)) ce_int) ca_nil)) ce_str) (ce_var (i := 1))) ce_str) (ce_call (IH .f_expression) (hr.mono (by omega)) rfl (Z.mg_ .f_expression) (Z.keep .f_expression) (Z.binds .f_expression) (takes_of rfl rfl rfl rfl) (ca_cons (ce_ix (ix_any (hu_of hr)) p2_ix (ce_var (i := 0)) ce_int) ca_nil))))))))))
theorem sc_f_law_read : FnScope (locOf .f_law_read) (psOf .f_law_read) (defScope (stOf .f_law_read)) := ⟨rfl, rfl, rfl, by decide +kernel, rfl, by decide +kernel, by decide +kernel⟩
theorem nd_f_law_read : (locOf .f_law_read).Nodup := sc_f_law_read.nd
theorem ok_f_law_read (Z : Fx w K mg base T) {k : Nat} {cs : Fn → Fd} (IH : ∀ f, OkF P w K mg base T Z (4 * k) cs f) : FnOk P w K mg base (L2.CX P w) (4 * k + 3 + 1) (adr K .f_law_read) (Z.fd .f_law_read) (psOf .f_law_read) (spF ⟨K, T, cadK K⟩ (psOf .f_law_read).length (denF (psOf .f_law_read).length (locOf .f_law_read).length (bdOf .f_law_read cs))) := by
  refine fn_bd Z .f_law_read sc_f_law_read fun cdv A outer s ρ0 H E hcd hr => ?_
  show CSs _ _ _ (b_f_law_read cs)
  unfold b_f_law_read
  exact (cs_cons (cs_if (PW.pt (ct_or (ct_cmp op_isA p2_is (ce_var (i := 0)) ce_non rfl) (ct_or (ct_cmp op_isA p2_is (ce_var (i := 0)) ce_bl rfl) (pw_or1 (ct_cmp op_isA p2_is (ce_var (i := 0)) ce_bl rfl))))) (cs_one (cs_retV (i := 0))) cs_nil)
  (cs_cons (cs_if (ct_tru (ce_callB call_isi pn_isi rfl Z.no_isinstance boot_isinstance (ca_cons (ce_var (i := 0)) (ca_cons (ce_ty (T := "int") rfl Z.no_int boot_int) ca_nil)))) (cs_one (cs_ret (ce_callTy call_int1 pn_int rfl Z.no_int boot_int (ca_cons (ce_var (i := 0)) ca_nil)))) cs_nil)
  (cs_cons (cs_if (ct_tru (ce_callB call_isi pn_isi rfl Z.no_isinstance boot_isinstance (ca_cons (ce_var (i := 0)) (ca_cons (ce_ty (T := "str") rfl Z.no_str boot_str) ca_nil)))) (cs_one (cs_ret (ce_op op_addA p2_add ce_str (ce_var (i := 0))))) cs_nil)
  (cs_cons (cs_if (ct_tru (ce_callB call_isi pn_isi rfl Z.no_isinstance boot_isinstance (ca_cons (ce_var (i := 0)) (ca_cons (ce_ty (T := "tuple") rfl Z.no_tuple boot_tuple) ca_nil)))) (cs_one (cs_ret (ce_callTy call_tuple_of pn_tuple rfl Z.no_tuple boot_tuple (ca_cons (ce_lc (own := [("part", 1)]) (ts := [1]) rfl nd_f_law_read (blkOk_by (by show blkC (locOf .f_law_read) (defScope (stOf .f_law_read)) _ _ = true; decide +kernel)) (ci_E (ce_var (i := 0))) (fun _ _ _ _ _ => (cg_name (i := 1) nd_f_law_read)) (fun _ _ _ _ _ => cts_nil) (fun _ _ _ _ _ => (ce_call (IH .f_law_read) (hr.mono (by omega)) rfl (Z.mg_ .f_law_read) (Z.keep .f_law_read) (Z.binds .f_law_read) LamX.takes0 (ca_cons (ce_var (i := 1)) ca_nil))) (by decide)) ca_nil)))) cs_nil)
  (cs_one (cs_ret ce_str))))))
theorem sc_f_law_draw : FnScope (locOf .f_law_draw) (psOf .f_law_draw) (defScope (stOf .f_law_draw)) := ⟨rfl, rfl, rfl, by decide +kernel, rfl, by decide +kernel, by decide +kernel⟩
theorem nd_f_law_draw : (locOf .f_law_draw).Nodup := sc_f_law_draw.nd
theorem ok_f_law_draw (Z : Fx w K mg base T) {k : Nat} {cs : Fn → Fd} (IH : ∀ f, OkF P w K mg base T Z (4 * k) cs f) : FnOk P w K mg base (L2.CX P w) (4 * k + 3 + 1) (adr K .f_law_draw) (Z.fd .f_law_draw) (psOf .f_law_draw) (spF ⟨K, T, cadK K⟩ (psOf .f_law_draw).length (denF (psOf .f_law_draw).length (locOf .f_law_draw).length (bdOf .f_law_draw cs))) := by
  refine fn_bd Z .f_law_draw sc_f_law_draw fun cdv A outer s ρ0 H E hcd hr => ?_
  show CSs _ _ _ (b_f_law_draw cs)
  unfold b_f_law_draw
  exact (cs_cons (cs_if (ct_cmp op_gt p2_gt (ce_ix (ix_any (hu_of hr)) p2_ix (ce_var (i := 0)) ce_int) ce_int rfl) (cs_cons (cs_set (i := 2) (ce_op op_mod p2_mod (ce_ix (ix_any (hu_of hr)) p2_ix (ce_var (i := 0)) ce_int) (ce_var (i := 1))) nd_f_law_draw)
  (cs_cons (cs_setIx (ce_var (i := 0)) ce_int (ce_op op_fdiv p2_div (ce_ix (ix_any (hu_of hr)) p2_ix (ce_var (i := 0)) ce_int) (ce_var (i := 1))) (hu_of hr))
  (cs_one (cs_ret (ce_callTy call_int1 pn_int rfl Z.no_int boot_int (ca_cons (ce_var (i := 2)) ca_nil)))))) cs_nil)
  (cs_cons (cs_setIx (ce_var (i := 0)) ce_int (ce_op op_mod p2_mod (ce_callTy call_int1 pn_int rfl Z.no_int boot_int (ca_cons (ce_op op_addA p2_add (ce_op op_mulB p2_mulB (ce_ix (ix_any (hu_of hr)) p2_ix (ce_var (i := 0)) ce_int) ce_int) ce_int) ca_nil)) ce_int) (hu_of hr))
  (cs_one (cs_ret (ce_op op_mod p2_mod (ce_callTy call_int1 pn_int rfl Z.no_int boot_int (ca_cons (ce_op op_fdiv p2_div (ce_ix (ix_any (hu_of hr)) p2_ix (ce_var (i := 0)) ce_int) ce_int) ca_nil)) (ce_var (i := 1)))))))
theorem sc_f_whole : FnScope (locOf .f_whole) (psOf .f_whole) (defScope (stOf .f_whole)) := ⟨rfl, rfl, rfl, by decide +kernel, rfl, by decide +kernel, by decide +kernel⟩
theorem nd_f_whole : (locOf .f_whole).Nodup := sc_f_whole.nd
theorem ok_f_whole (Z : Fx w K mg base T) {k : Nat} {cs : Fn → Fd} (IH : ∀ f, OkF P w K mg base T Z (4 * k) cs f) : FnOk P w K mg base (L2.CX P w) (4 * k + 3 + 1) (adr K .f_whole) (Z.fd .f_whole) (psOf .f_whole) (spF ⟨K, T, cadK K⟩ (psOf .f_whole).length (denF (psOf .f_whole).length (locOf .f_whole).length (bdOf .f_whole cs))) := by
  refine fn_bd Z .f_whole sc_f_whole fun cdv A outer s ρ0 H E hcd hr => ?_
  show CSs _ _ _ (b_f_whole cs)
  unfold b_f_whole
  exact (cs_cons (cs_if (ct_not (ct_tru (ce_call (IH .f_is_whole) (hr.mono (by omega)) rfl (Z.mg_ .f_is_whole) (Z.keep .f_is_whole) (Z.binds .f_is_whole) (takes_of rfl rfl rfl rfl) (ca_cons (ce_var (i := 0)) ca_nil)))) (cs_one (cs_raise rfl (takes_of rfl rfl rfl rfl) (exc_at Z.x_BadProgram) rfl (ca_cons ce_str ca_nil))) cs_nil)
  (cs_one (cs_ret (ce_dc (own := [("f", 1)]) (ts := [1]) rfl nd_f_whole (blkOk_by (by show blkC (locOf .f_whole) (defScope (stOf .f_whole)) _ _ = true; decide +kernel)) (ci_E (ce_var (i := 0))) (fun _ _ _ _ _ => (cg_name (i := 1) nd_f_whole)) (fun _ _ _ _ _ => cts_nil) (fun _ _ _ _ _ => (ce_ix (ix_any (hu_of hr)) p2_ix (ce_var (i := 1)) ce_int)) (fun _ _ _ _ _ => (ce_var (i := 1))) (by decide)))))
theorem sc_f_block_rows : FnScope (locOf .f_block_rows) (psOf .f_block_rows) (defScope (stOf .f_block_rows)) := ⟨rfl, rfl, rfl, by decide +kernel, rfl, by decide +kernel, by decide +kernel⟩
theorem nd_f_block_rows : (locOf .f_block_rows).Nodup := sc_f_block_rows.nd
theorem ok_f_block_rows (Z : Fx w K mg base T) {k : Nat} {cs : Fn → Fd} (IH : ∀ f, OkF P w K mg base T Z (4 * k) cs f) : FnOk P w K mg base (L2.CX P w) (4 * k + 3 + 1) (adr K .f_block_rows) (Z.fd .f_block_rows) (psOf .f_block_rows) (spF ⟨K, T, cadK K⟩ (psOf .f_block_rows).length (denF (psOf .f_block_rows).length (locOf .f_block_rows).length (bdOf .f_block_rows cs))) := by
  refine fn_bd Z .f_block_rows sc_f_block_rows fun cdv A outer s ρ0 H E hcd hr => ?_
  show CSs _ _ _ (b_f_block_rows cs)
  unfold b_f_block_rows
  exact (cs_one (cs_ret (ce_lc2 (own := [("s", 2), ("row", 3)]) (vs1 := [3]) (ts := [2]) (ts1 := [3]) rfl nd_f_block_rows (blkOk_by (by show blkC (locOf .f_block_rows) (defScope (stOf .f_block_rows)) _ _ = true; decide +kernel)) (by decide) (ko_nm _) (ci_E (ce_var (i := 0))) (fun _ _ _ _ _ => (cg_name (i := 2) nd_f_block_rows)) (fun _ _ _ _ _ => cts_nil) (fun _ _ _ _ _ => (ci_S (ce_call (IH .f_statement) (hr.mono (by omega)) rfl (Z.mg_ .f_statement) (Z.keep .f_statement) (Z.binds .f_statement) LamX.takes0 (ca_cons (ce_var (i := 2)) (ca_cons (ce_var (i := 1)) ca_nil))))) (fun _ _ _ _ _ => (cg_name (i := 3) nd_f_block_rows)) (fun _ _ _ _ _ => cts_nil) (fun _ _ _ _ _ => (ce_var (i := 3))) (by decide) (by decide))))
theorem sc_f_head_fits : FnScope (locOf .f_head_fits) (psOf .f_head_fits) (defScope (stOf .f_head_fits)) := ⟨rfl, rfl, rfl, by decide +kernel, rfl, by decide +kernel, by decide +kernel⟩
theorem nd_f_head_fits : (locOf .f_head_fits).Nodup := sc_f_head_fits.nd
theorem ok_f_head_fits (Z : Fx w K mg base T) {k : Nat} {cs : Fn → Fd} (IH : ∀ f, OkF P w K mg base T Z (4 * k) cs f) : FnOk P w K mg base (L2.CX P w) (4 * k + 3 + 1) (adr K .f_head_fits) (Z.fd .f_head_fits) (psOf .f_head_fits) (spF ⟨K, T, cadK K⟩ (psOf .f_head_fits).length (denF (psOf .f_head_fits).length (locOf .f_head_fits).length (bdOf .f_head_fits cs))) := by
  refine fn_bd Z .f_head_fits sc_f_head_fits fun cdv A outer s ρ0 H E hcd hr => ?_
  show CSs _ _ _ (b_f_head_fits cs)
  unfold b_f_head_fits
  exact (cs_one (cs_ret (ce_and (ce_cmp op_isA p2_is (ce_callTy call_type1 pn_type rfl Z.no_type boot_type (ca_cons (ce_var (i := 0)) ca_nil)) (ce_ty (T := "tuple") rfl Z.no_tuple boot_tuple) rfl) (ce_and (ce_cmp (op_eqD (hu64 hr)) p2_eq (ce_callB call_lenA pn_len rfl Z.no_len boot_len (ca_cons (ce_var (i := 0)) ca_nil)) ce_int rfl) (ce_and1 (ce_call (IH .f_head_of) (hr.mono (by omega)) rfl (Z.mg_ .f_head_of) (Z.keep .f_head_of) (Z.binds .f_head_of) (takes_of rfl rfl rfl rfl) (ca_cons (ce_slice (ce_var (i := 0)) co_none (co_some ce_int)) ca_nil)))))))
theorem sc_f_law_cell : FnScope (locOf .f_law_cell) (psOf .f_law_cell) (defScope (stOf .f_law_cell)) := ⟨rfl, rfl, rfl, by decide +kernel, rfl, by decide +kernel, by decide +kernel⟩
theorem nd_f_law_cell : (locOf .f_law_cell).Nodup := sc_f_law_cell.nd
theorem ok_f_law_cell (Z : Fx w K mg base T) {k : Nat} {cs : Fn → Fd} (IH : ∀ f, OkF P w K mg base T Z (4 * k) cs f) : FnOk P w K mg base (L2.CX P w) (4 * k + 3 + 1) (adr K .f_law_cell) (Z.fd .f_law_cell) (psOf .f_law_cell) (spF ⟨K, T, cadK K⟩ (psOf .f_law_cell).length (denF (psOf .f_law_cell).length (locOf .f_law_cell).length (bdOf .f_law_cell cs))) := by
  refine fn_bd Z .f_law_cell sc_f_law_cell fun cdv A outer s ρ0 H E hcd hr => ?_
  show CSs _ _ _ (b_f_law_cell cs)
  unfold b_f_law_cell
  exact (cs_one (cs_ret (ce_if (ct_cmp op_lt p2_lt (ce_var (i := 1)) (ce_callB call_lenA pn_len rfl Z.no_len boot_len (ca_cons (ce_var (i := 0)) ca_nil)) rfl) (ce_callTy call_int1 pn_int rfl Z.no_int boot_int (ca_cons (ce_ix (ix_any (hu_of hr)) p2_ix (ce_var (i := 0)) (ce_var (i := 1))) ca_nil)) ce_int)))
end
end Sk25
set_option Elab.async false
set_option linter.all false
set_option maxRecDepth 100000
set_option maxHeartbeats 4000000
namespace Sk25
open PySem PySem.Spec PyProof.Rows L2 Sh
section
variable {P : Program} {w : World} {K : PySem.W.Frag} {mg : Str → Option Value} {base : Heap} {T : List (Addr × Str)}
theorem sc_f_statement_fits : FnScope (locOf .f_statement_fits) (psOf .f_statement_fits) (defScope (stOf .f_statement_fits)) := ⟨rfl, rfl, rfl, by decide +kernel, rfl, by decide +kernel, by decide +kernel⟩
theorem nd_f_statement_fits : (locOf .f_statement_fits).Nodup := sc_f_statement_fits.nd
theorem ok_f_statement_fits (Z : Fx w K mg base T) {k : Nat} {cs : Fn → Fd} (IH : ∀ f, OkF P w K mg base T Z (4 * k) cs f) : FnOk P w K mg base (L2.CX P w) (4 * k + 3 + 1) (adr K .f_statement_fits) (Z.fd .f_statement_fits) (psOf .f_statement_fits) (spF ⟨K, T, cadK K⟩ (psOf .f_statement_fits).length (denF (psOf .f_statement_fits).length (locOf .f_statement_fits).length (bdOf .f_statement_fits cs))) := by
  refine fn_bd Z .f_statement_fits sc_f_statement_fits fun cdv A outer s ρ0 H E hcd hr => ?_
  show CSs _ _ _ (b_f_statement_fits cs)
  unfold b_f_statement_fits
  exact (cs_cons (cs_setLc (ix := 5) (hy := rfl) (hyl := rfl) (hsw := sw_true rfl rfl rfl rfl) (own := [("p", 6)]) (ts := [6]) rfl nd_f_statement_fits (blkOk_by (by show blkC (locOf .f_statement_fits) (defScope (stOf .f_statement_fits)) _ _ = true; decide +kernel)) (ci_E (ce_ix (ix_any (hu_of hr)) p2_ix (ce_var (i := 1)) ce_int)) (fun _ _ _ _ _ => (cg_name (i := 6) nd_f_statement_fits)) (fun _ _ _ _ _ => cts_nil) (fun _ _ _ _ _ => (ce_ix (ix_any (hu_of hr)) p2_ix (ce_var (i := 6)) ce_int)) (by decide))
  (cs_cons (cs_setLc (ix := 7) (hy := rfl) (hyl := rfl) (hsw := sw_true rfl rfl rfl rfl) (own := [("r", 8)]) (ts := [8]) rfl nd_f_statement_fits (blkOk_by (by show blkC (locOf .f_statement_fits) (defScope (stOf .f_statement_fits)) _ _ = true; decide +kernel)) (ci_E (ce_ix (ix_any (hu_of hr)) p2_ix (ce_var (i := 1)) ce_int)) (fun _ _ _ _ _ => (cg_name (i := 8) nd_f_statement_fits)) (fun _ _ _ _ _ => cts_nil) (fun _ _ _ _ _ => (ce_ix (ix_any (hu_of hr)) p2_ix (ce_var (i := 8)) ce_int)) (by decide))
  (cs_cons (cs_set (i := 9) (ce_ix (ix_any (hu_of hr)) p2_ix (ce_var (i := 2)) ce_int) nd_f_statement_fits)
  (cs_cons (cs_if (PW.pt (ct_and (ct_cmp (op_inB (hu80 hr)) p2_inB (ce_var (i := 9)) (ce_tup (ca_cons ce_str (ca_cons ce_str (ca_cons ce_str ca_nil)))) rfl) (pw_and1 (ct_not (PW.pt (ct_and (ct_tru (ce_call (IH .f_is_name) (hr.mono (by omega)) rfl (Z.mg_ .f_is_name) (Z.keep .f_is_name) (Z.binds .f_is_name) (takes_of rfl rfl rfl rfl) (ca_cons (ce_ix (ix_any (hu_of hr)) p2_ix (ce_var (i := 2)) ce_int) ca_nil))) (pw_and1 (ct_tru (ce_call (IH .f_is_type) (hr.mono (by omega)) rfl (Z.mg_ .f_is_type) (Z.keep .f_is_type) (Z.binds .f_is_type) (takes_of rfl rfl rfl rfl) (ca_cons (ce_ix (ix_any (hu_of hr)) p2_ix (ce_var (i := 2)) ce_int) (ca_cons (ce_var (i := 5)) ca_nil))))))))))) (cs_one (cs_ret ce_bl)) cs_nil)
  (cs_cons (cs_if (ct_cmp (op_eqD (hu64 hr)) p2_eq (ce_var (i := 9)) ce_str rfl) (cs_one (cs_ret (ce_call (IH .f_is_expression) (hr.mono (by omega)) rfl (Z.mg_ .f_is_expression) (Z.keep .f_is_expression) (Z.binds .f_is_expression) (takes_of rfl rfl rfl rfl) (ca_cons (ce_ix (ix_any (hu_of hr)) p2_ix (ce_var (i := 2)) ce_int) (ca_cons (ce_var (i := 3)) ca_nil))))) cs_nil)
  (cs_cons (cs_if (ct_cmp (op_eqD (hu64 hr)) p2_eq (ce_var (i := 9)) ce_str rfl) (cs_one (cs_ret (ce_and (ce_cmp op_isA p2_is (ce_callTy call_type1 pn_type rfl Z.no_type boot_type (ca_cons (ce_ix (ix_any (hu_of hr)) p2_ix (ce_var (i := 2)) ce_int) ca_nil)) (ce_ty (T := "str") rfl Z.no_str boot_str) rfl) (ce_and (ce_cmp (op_inB (hu80 hr)) p2_inB (ce_ix (ix_any (hu_of hr)) p2_ix (ce_var (i := 2)) ce_int) (ce_var (i := 4)) rfl) (ce_and1 (ce_call (IH .f_is_expression) (hr.mono (by omega)) rfl (Z.mg_ .f_is_expression) (Z.keep .f_is_expression) (Z.binds .f_is_expression) (takes_of rfl rfl rfl rfl) (ca_cons (ce_ix (ix_any (hu_of hr)) p2_ix (ce_var (i := 2)) ce_int) (ca_cons (ce_var (i := 3)) ca_nil)))))))) cs_nil)
  (cs_cons (cs_if (ct_cmp (op_eqD (hu64 hr)) p2_eq (ce_var (i := 9)) ce_str rfl) (cs_one (cs_ret (ce_call (IH .f_call_fits) (hr.mono (by omega)) rfl (Z.mg_ .f_call_fits) (Z.keep .f_call_fits) (Z.binds .f_call_fits) (takes_of rfl rfl rfl rfl) (ca_cons (ce_var (i := 0)) (ca_cons (ce_var (i := 1)) (ca_cons (ce_var (i := 2)) (ca_cons (ce_var (i := 3)) ca_nil))))))) cs_nil)
  (cs_cons (cs_if (ct_cmp (op_eqD (hu64 hr)) p2_eq (ce_var (i := 9)) ce_str rfl) (cs_one (cs_ret (ce_and (ce_cmp op_isA p2_is (ce_callTy call_type1 pn_type rfl Z.no_type boot_type (ca_cons (ce_ix (ix_any (hu_of hr)) p2_ix (ce_var (i := 2)) ce_int) ca_nil)) (ce_ty (T := "str") rfl Z.no_str boot_str) rfl) (ce_and (ce_cmp (op_inB (hu80 hr)) p2_inB (ce_ix (ix_any (hu_of hr)) p2_ix (ce_var (i := 2)) ce_int) (ce_var (i := 7)) rfl) (ce_and1 (ce_call (IH .f_is_expression) (hr.mono (by omega)) rfl (Z.mg_ .f_is_expression) (Z.keep .f_is_expression) (Z.binds .f_is_expression) (takes_of rfl rfl rfl rfl) (ca_cons (ce_ix (ix_any (hu_of hr)) p2_ix (ce_var (i := 2)) ce_int) (ca_cons (ce_var (i := 3)) ca_nil)))))))) cs_nil)
  (cs_cons (cs_if (ct_cmp (op_eqD (hu64 hr)) p2_eq (ce_var (i := 9)) ce_str rfl) (cs_one (cs_ret (ce_and (ce_cmp op_isA p2_is (ce_callTy call_type1 pn_type rfl Z.no_type boot_type (ca_cons (ce_ix (ix_any (hu_of hr)) p2_ix (ce_var (i := 2)) ce_int) ca_nil)) (ce_ty (T := "str") rfl Z.no_str boot_str) rfl) (ce_and (ce_cmp (op_inB (hu80 hr)) p2_inB (ce_ix (ix_any (hu_of hr)) p2_ix (ce_var (i := 2)) ce_int) (ce_var (i := 7)) rfl) (ce_and (ce_call (IH .f_is_expression) (hr.mono (by omega)) rfl (Z.mg_ .f_is_expression) (Z.keep .f_is_expression) (Z.binds .f_is_expression) (takes_of rfl rfl rfl rfl) (ca_cons (ce_ix (ix_any (hu_of hr)) p2_ix (ce_var (i := 2)) ce_int) (ca_cons (ce_var (i := 3)) ca_nil))) (ce_and1 (ce_call (IH .f_is_expression) (hr.mono (by omega)) rfl (Z.mg_ .f_is_expression) (Z.keep .f_is_expression) (Z.binds .f_is_expression) (takes_of rfl rfl rfl rfl) (ca_cons (ce_ix (ix_any (hu_of hr)) p2_ix (ce_var (i := 2)) ce_int) (ca_cons (ce_var (i := 3)) ca_nil))))))))) cs_nil)
  (cs_cons (cs_if (ct_cmp (op_eqD (hu64 hr)) p2_eq (ce_var (i := 9)) ce_str rfl) (cs_one (cs_ret (ce_and (ce_call (IH .f_is_condition) (hr.mono (by omega)) rfl (Z.mg_ .f_is_condition) (Z.keep .f_is_condition) (Z.binds .f_is_condition) (takes_of rfl rfl rfl rfl) (ca_cons (ce_ix (ix_any (hu_of hr)) p2_ix (ce_var (i := 2)) ce_int) (ca_cons (ce_var (i := 3)) ca_nil))) (ce_and (ce_call (IH .f_is_condition) (hr.mono (by omega)) rfl (Z.mg_ .f_is_condition) (Z.keep .f_is_condition) (Z.binds .f_is_condition) (takes_of rfl rfl rfl rfl) (ca_cons (ce_ix (ix_any (hu_of hr)) p2_ix (ce_var (i := 2)) ce_int) (ca_cons (ce_var (i := 3)) ca_nil))) (ce_and1 (ce_call (IH .f_is_expression) (hr.mono (by omega)) rfl (Z.mg_ .f_is_expression) (Z.keep .f_is_expression) (Z.binds .f_is_expression) (takes_of rfl rfl rfl rfl) (ca_cons (ce_ix (ix_any (hu_of hr)) p2_ix (ce_var (i := 2)) ce_int) (ca_cons (ce_var (i := 3)) ca_nil)))))))) cs_nil)
  (cs_cons (cs_if (ct_cmp (op_inB (hu80 hr)) p2_inB (ce_var (i := 9)) (ce_tup (ca_cons ce_str (ca_cons ce_str ca_nil))) rfl) (cs_one (cs_ret (ce_call (IH .f_is_condition) (hr.mono (by omega)) rfl (Z.mg_ .f_is_condition) (Z.keep .f_is_condition) (Z.binds .f_is_condition) (takes_of rfl rfl rfl rfl) (ca_cons (ce_ix (ix_any (hu_of hr)) p2_ix (ce_var (i := 2)) ce_int) (ca_cons (ce_var (i := 3)) ca_nil))))) cs_nil)
  (cs_one (cs_ret (ce_call (IH .f_is_expression) (hr.mono (by omega)) rfl (Z.mg_ .f_is_expression) (Z.keep .f_is_expression) (Z.binds .f_is_expression) (takes_of rfl rfl rfl rfl) (ca_cons (ce_ix (ix_any (hu_of hr)) p2_ix (ce_var (i := 2)) ce_int) (ca_cons (ce_var (i := 3)) ca_nil))))))))))))))))
theorem sc_f_expression_parts : FnScope (locOf .f_expression_parts) (psOf .f_expression_parts) (defScope (stOf .f_expression_parts)) := ⟨rfl, rfl, rfl, by decide +kernel, rfl, by decide +kernel, by decide +kernel⟩
theorem nd_f_expression_parts : (locOf .f_expression_parts).Nodup := sc_f_expression_parts.nd
theorem ok_f_expression_parts (Z : Fx w K mg base T) {k : Nat} {cs : Fn → Fd} (IH : ∀ f, OkF P w K mg base T Z (4 * k) cs f) : FnOk P w K mg base (L2.CX P w) (4 * k + 3 + 1) (adr K .f_expression_parts) (Z.fd .f_expression_parts) (psOf .f_expression_parts) (spF ⟨K, T, cadK K⟩ (psOf .f_expression_parts).length (denF (psOf .f_expression_parts).length (locOf .f_expression_parts).length (bdOf .f_expression_parts cs))) := by
  refine fn_bd Z .f_expression_parts sc_f_expression_parts fun cdv A outer s ρ0 H E hcd hr => ?_
  show CSs _ _ _ (b_f_expression_parts cs)
  unfold b_f_expression_parts
  exact (cs_cons (cs_if (PW.pt (ct_or (ct_cmp op_isNotA p2_isNot (ce_callTy call_type1 pn_type rfl Z.no_type boot_type (ca_cons (ce_var (i := 0)) ca_nil)) (ce_ty (T := "tuple") rfl Z.no_tuple boot_tuple) rfl) (ct_or (ct_not (ct_tru (ce_var (i := 0)))) (pw_or1 (ct_cmp op_isNotA p2_isNot (ce_callTy call_type1 pn_type rfl Z.no_type boot_type (ca_cons (ce_ix (ix_any (hu_of hr)) p2_ix (ce_var (i := 0)) ce_int) ca_nil)) (ce_ty (T := "str") rfl Z.no_str boot_str) rfl))))) (cs_one (cs_ret ce_int)) cs_nil)
  (cs_cons (cs_if (ct_cmp (op_eqD (hu64 hr)) p2_eq (ce_ix (ix_any (hu_of hr)) p2_ix (ce_var (i := 0)) ce_int) ce_str rfl) (cs_one (cs_ret (ce_if (PW.pt (ct_and (ct_cmp (op_eqD (hu64 hr)) p2_eq (ce_callB call_lenA pn_len rfl Z.no_len boot_len (ca_cons (ce_var (i := 0)) ca_nil)) ce_int rfl) (pw_and1 (ct_tru (ce_call (IH .f_is_number) (hr.mono (by omega)) rfl (Z.mg_ .f_is_number) (Z.keep .f_is_number) (Z.binds .f_is_number) (takes_of rfl rfl rfl rfl) (ca_cons (ce_ix (ix_any (hu_of hr)) p2_ix (ce_var (i := 0)) ce_int) ca_nil)))))) ce_int ce_int))) cs_nil)
  (cs_cons (cs_if (ct_cmp (op_eqD (hu64 hr)) p2_eq (ce_ix (ix_any (hu_of hr)) p2_ix (ce_var (i := 0)) ce_int) ce_str rfl) (cs_one (cs_ret (ce_if (PW.pt (ct_and (ct_cmp (op_eqD (hu64 hr)) p2_eq (ce_callB call_lenA pn_len rfl Z.no_len boot_len (ca_cons (ce_var (i := 0)) ca_nil)) ce_int rfl) (pw_and1 (ct_tru (ce_call (IH .f_is_there) (hr.mono (by omega)) rfl (Z.mg_ .f_is_there) (Z.keep .f_is_there) (Z.binds .f_is_there) (takes_of rfl rfl rfl rfl) (ca_cons (ce_ix (ix_any (hu_of hr)) p2_ix (ce_var (i := 0)) ce_int) (ca_cons (ce_var (i := 1)) ca_nil))))))) ce_int ce_int))) cs_nil)
  (cs_cons (cs_if (ct_cmp (op_neD (hu64 hr)) p2_ne (ce_callB call_lenA pn_len rfl Z.no_len boot_len (ca_cons (ce_var (i := 0)) ca_nil)) ce_int rfl) (cs_one (cs_ret ce_int)) cs_nil)
  (cs_cons (cs_if (ct_cmp (op_inB (hu80 hr)) p2_inB (ce_ix (ix_any (hu_of hr)) p2_ix (ce_var (i := 0)) ce_int) (ce_tup (ca_cons ce_str (ca_cons ce_str ca_nil))) rfl) (cs_cons (cs_par2 (i := 2) (j := 3) rfl nd_f_expression_parts rfl rfl (by decide) rfl rfl (ca_cons (ce_call (IH .f_expression_parts) (hr.mono (by omega)) rfl (Z.mg_ .f_expression_parts) (Z.keep .f_expression_parts) (Z.binds .f_expression_parts) (takes_of rfl rfl rfl rfl) (ca_cons (ce_ix (ix_any (hu_of hr)) p2_ix (ce_var (i := 0)) ce_int) (ca_cons (ce_var (i := 1)) ca_nil))) (ca_cons (ce_call (IH .f_expression_parts) (hr.mono (by omega)) rfl (Z.mg_ .f_expression_parts) (Z.keep .f_expression_parts) (Z.binds .f_expression_parts) (takes_of rfl rfl rfl rfl) (ca_cons (ce_ix (ix_any (hu_of hr)) p2_ix (ce_var (i := 0)) ce_int) (ca_cons (ce_var (i := 1)) ca_nil))) ca_nil)) rfl)
  (cs_one (cs_ret (ce_if (PW.pt (ct_and (ct_tru (ce_var (i := 2))) (pw_and1 (ct_tru (ce_var (i := 3)))))) (ce_op op_addA p2_add (ce_op op_addA p2_add (ce_var (i := 2)) (ce_var (i := 3))) ce_int) ce_int)))) cs_nil)
  (cs_cons (cs_if (ct_cmp (op_eqD (hu64 hr)) p2_eq (ce_ix (ix_any (hu_of hr)) p2_ix (ce_var (i := 0)) ce_int) ce_str rfl) (cs_cons (cs_set (i := 4) (ce_if (ct_tru (ce_call (IH .f_is_number) (hr.mono (by omega)) rfl (Z.mg_ .f_is_number) (Z.keep .f_is_number) (Z.binds .f_is_number) (takes_of rfl rfl rfl rfl) (ca_cons (ce_ix (ix_any (hu_of hr)) p2_ix (ce_var (i := 0)) ce_int) ca_nil))) (ce_call (IH .f_expression_parts) (hr.mono (by omega)) rfl (Z.mg_ .f_expression_parts) (Z.keep .f_expression_parts) (Z.binds .f_expression_parts) (takes_of rfl rfl rfl rfl) (ca_cons (ce_ix (ix_any (hu_of hr)) p2_ix (ce_var (i := 0)) ce_int) (ca_cons (ce_var (i := 1)) ca_nil))) ce_int) nd_f_expression_parts)
  (cs_one (cs_ret (ce_if (ct_tru (ce_var (i := 4))) (ce_op op_addA p2_add (ce_var (i := 4)) ce_int) ce_int)))) cs_nil)
  (cs_cons (cs_if (ct_cmp (op_inB (hu80 hr)) p2_inB (ce_ix (ix_any (hu_of hr)) p2_ix (ce_var (i := 0)) ce_int) (ce_tup (ca_cons ce_str (ca_cons ce_str ca_nil))) rfl) (cs_cons (cs_set (i := 4) (ce_if (PW.pt (ct_and (ct_tru (ce_call (IH .f_is_number) (hr.mono (by omega)) rfl (Z.mg_ .f_is_number) (Z.keep .f_is_number) (Z.binds .f_is_number) (takes_of rfl rfl rfl rfl) (ca_cons (ce_ix (ix_any (hu_of hr)) p2_ix (ce_var (i := 0)) ce_int) ca_nil))) (pw_and1 (ct_cmp op_ge p2_ge (ce_ix (ix_any (hu_of hr)) p2_ix (ce_var (i := 0)) ce_int) ce_int rfl)))) (ce_call (IH .f_expression_parts) (hr.mono (by omega)) rfl (Z.mg_ .f_expression_parts) (Z.keep .f_expression_parts) (Z.binds .f_expression_parts) (takes_of rfl rfl rfl rfl) (ca_cons (ce_ix (ix_any (hu_of hr)) p2_ix (ce_var (i := 0)) ce_int) (ca_cons (ce_var (i := 1)) ca_nil))) ce_int) nd_f_expression_parts)
  (cs_one (cs_ret (ce_if (ct_tru (ce_var (i := 4))) (ce_op op_addA p2_add (ce_var (i := 4)) ce_int) ce_int)))) cs_nil)
  (cs_one (cs_ret ce_int)))))))))
theorem sc_f_head : FnScope (locOf .f_head) (psOf .f_head) (defScope (stOf .f_head)) := ⟨rfl, rfl, rfl, by decide +kernel, rfl, by decide +kernel, by decide +kernel⟩
theorem nd_f_head : (locOf .f_head).Nodup := sc_f_head.nd
theorem ok_f_head (Z : Fx w K mg base T) {k : Nat} {cs : Fn → Fd} (IH : ∀ f, OkF P w K mg base T Z (4 * k) cs f) : FnOk P w K mg base (L2.CX P w) (4 * k + 3 + 1) (adr K .f_head) (Z.fd .f_head) (psOf .f_head) (spF ⟨K, T, cadK K⟩ (psOf .f_head).length (denF (psOf .f_head).length (locOf .f_head).length (bdOf .f_head cs))) := by
  refine fn_bd Z .f_head sc_f_head fun cdv A outer s ρ0 H E hcd hr => ?_
  have tf := Z.tab_g .f_head (by simp)
  have gt : GTab (cxOf (L2.CX P w) P w K mg base (locOf .f_head) (nmOf .f_head) (defScope (stOf .f_head)) (adr K .f_head) cdv A outer s H E) T (Z.cT .f_head).1 (Z.cT .f_head).2 := ⟨tf.tb, hcd.symm.trans tf.code, tf.mem, tf.uniq⟩
  show CSs _ _ _ (b_f_head cs)
  unfold b_f_head
  exact (cs_cons (cs_set (i := 1) (ce_op op_addA p2_add (ce_op op_addA p2_add (ce_op op_addA p2_add (ce_op op_addA p2_add ce_str (ce_ix (ix_any (hu_of hr)) p2_ix (ce_var (i := 0)) ce_int)) ce_str) (ce_joinGx (own := [("p", 2)]) (ts := [2]) hr rfl nd_f_head (gsc_by (by show gscB (locOf .f_head) (defScope (stOf .f_head)) _ _ = true; decide +kernel)) gt ce_str (ci_E (ce_ix (ix_any (hu_of hr)) p2_ix (ce_var (i := 0)) ce_int)) (fun _ _ _ _ _ _ _ => (cg_name (i := 2) nd_f_head)) (fun _ _ _ _ _ _ _ => cts_nil) (fun _ _ _ _ _ _ _ => (ce_op op_addA p2_add (ce_op op_addA p2_add (ce_ix (ix_any (hu_of (room_gen4 hr))) p2_ix (ce_var (i := 2)) ce_int) ce_str) (ce_call (IH .f_type_text) ((room_gen4 hr).mono (by omega)) rfl (Z.mg_ .f_type_text) (Z.keep .f_type_text) (Z.binds .f_type_text) LamX.takes0 (ca_cons (ce_ix (ix_any (hu_of (room_gen4 hr))) p2_ix (ce_var (i := 2)) ce_int) ca_nil)))) (by decide) (fun _ => rfl))) ce_str) nd_f_head)
  (cs_cons (cs_if (ct_tru (ce_ix (ix_any (hu_of hr)) p2_ix (ce_var (i := 0)) ce_int)) (cs_cons (cs_setLc (ix := 3) (hy := rfl) (hyl := rfl) (hsw := sw_true rfl rfl rfl rfl) (own := [("r", 4)]) (ts := [4]) rfl nd_f_head (blkOk_by (by show blkC (locOf .f_head) (defScope (stOf .f_head)) _ _ = true; decide +kernel)) (ci_E (ce_ix (ix_any (hu_of hr)) p2_ix (ce_var (i := 0)) ce_int)) (fun _ _ _ _ _ => (cg_name (i := 4) nd_f_head)) (fun _ _ _ _ _ => cts_nil) (fun _ _ _ _ _ => (ce_op op_addA p2_add (ce_op op_addA p2_add (ce_op op_addA p2_add (ce_op op_addA p2_add (ce_op op_addA p2_add (ce_op op_addA p2_add (ce_op op_addA p2_add (ce_ix (ix_any (hu_of hr)) p2_ix (ce_var (i := 4)) ce_int) ce_str) (ce_callTy call_str_int pn_str rfl Z.no_str boot_str (ca_cons (ce_ix (ix_any (hu_of hr)) p2_ix (ce_var (i := 4)) ce_int) ca_nil))) ce_str) (ce_callTy call_str_int pn_str rfl Z.no_str boot_str (ca_cons (ce_ix (ix_any (hu_of hr)) p2_ix (ce_var (i := 4)) ce_int) ca_nil))) ce_str) (ce_callTy call_str_int pn_str rfl Z.no_str boot_str (ca_cons (ce_ix (ix_any (hu_of hr)) p2_ix (ce_var (i := 4)) ce_int) ca_nil))) ce_str)) (by decide))
  (cs_one (cs_aug (i := 1) iop_addA pi_add (ce_op op_addA p2_add ce_str (ce_m1 PySem.F.slot_str_join PySem.F.type_str_join mt_join m_join ce_str (ce_var (i := 3)))) nd_f_head))) cs_nil)
  (cs_one (cs_ret (ce_op op_addA p2_add (ce_op op_addA p2_add (ce_op op_addA p2_add (ce_op op_addA p2_add (ce_var (i := 1)) ce_str) (ce_call (IH .f_expression) (hr.mono (by omega)) rfl (Z.mg_ .f_expression) (Z.keep .f_expression) (Z.binds .f_expression) (takes_of rfl rfl rfl rfl) (ca_cons (ce_ix (ix_any (hu_of hr)) p2_ix (ce_var (i := 0)) ce_int) ca_nil))) ce_str) (ce_call (IH .f_type_text) (hr.mono (by omega)) rfl (Z.mg_ .f_type_text) (Z.keep .f_type_text) (Z.binds .f_type_text) (takes_of rfl rfl rfl rfl) (ca_cons (ce_ix (ix_any (hu_of hr)) p2_ix (ce_var (i := 0)) ce_int) ca_nil)))))))
theorem sc_f_expression : FnScope (locOf .f_expression) (psOf .f_expression) (defScope (stOf .f_expression)) := ⟨rfl, rfl, rfl, by decide +kernel, rfl, by decide +kernel, by decide +kernel⟩
theorem nd_f_expression : (locOf .f_expression).Nodup := sc_f_expression.nd
theorem ok_f_expression (Z : Fx w K mg base T) {k : Nat} {cs : Fn → Fd} (IH : ∀ f, OkF P w K mg base T Z (4 * k) cs f) : FnOk P w K mg base (L2.CX P w) (4 * k + 3 + 1) (adr K .f_expression) (Z.fd .f_expression) (psOf .f_expression) (spF ⟨K, T, cadK K⟩ (psOf .f_expression).length (denF (psOf .f_expression).length (locOf .f_expression).length (bdOf .f_expression cs))) := by
  refine fn_bd Z .f_expression sc_f_expression fun cdv A outer s ρ0 H E hcd hr => ?_
  show CSs _ _ _ (b_f_expression cs)
  unfold b_f_expression
  exact (cs_cons (cs_set (i := 1) (ce_ix (ix_any (hu_of hr)) p2_ix (ce_var (i := 0)) ce_int) nd_f_expression)
  (cs_cons (cs_if (ct_cmp (op_eqD (hu64 hr)) p2_eq (ce_var (i := 1)) ce_str rfl) (cs_one (cs_ret (ce_callTy call_str_int pn_str rfl Z.no_str boot_str (ca_cons (ce_ix (ix_any (hu_of hr)) p2_ix (ce_var (i := 0)) ce_int) ca_nil)))) cs_nil)
  (cs_cons (cs_if (ct_cmp (op_eqD (hu64 hr)) p2_eq (ce_var (i := 1)) ce_str rfl) (cs_one (cs_ret (ce_ix (ix_any (hu_of hr)) p2_ix (ce_var (i := 0)) ce_int))) cs_nil)
  (cs_cons (cs_if (ct_cmp (op_eqD (hu64 hr)) p2_eq (ce_var (i := 1)) ce_str rfl) (cs_one (cs_ret (ce_op op_addA p2_add (ce_op op_addA p2_add (ce_callTy call_str_int pn_str rfl Z.no_str boot_str (ca_cons (ce_ix (ix_any (hu_of hr)) p2_ix (ce_var (i := 0)) ce_int) ca_nil)) ce_str) (ce_call (IH .f_tight) (hr.mono (by omega)) rfl (Z.mg_ .f_tight) (Z.keep .f_tight) (Z.binds .f_tight) (takes_of rfl rfl rfl rfl) (ca_cons (ce_ix (ix_any (hu_of hr)) p2_ix (ce_var (i := 0)) ce_int) ca_nil))))) cs_nil)
  (cs_cons (cs_if (ct_cmp (op_inB (hu80 hr)) p2_inB (ce_var (i := 1)) (ce_tup (ca_cons ce_str (ca_cons ce_str ca_nil))) rfl) (cs_one (cs_ret (ce_op op_addA p2_add (ce_op op_addA p2_add (ce_op op_addA p2_add (ce_op op_addA p2_add (ce_call (IH .f_tight) (hr.mono (by omega)) rfl (Z.mg_ .f_tight) (Z.keep .f_tight) (Z.binds .f_tight) (takes_of rfl rfl rfl rfl) (ca_cons (ce_ix (ix_any (hu_of hr)) p2_ix (ce_var (i := 0)) ce_int) ca_nil)) ce_str) (ce_var (i := 1))) ce_str) (ce_callTy call_str_int pn_str rfl Z.no_str boot_str (ca_cons (ce_ix (ix_any (hu_of hr)) p2_ix (ce_var (i := 0)) ce_int) ca_nil))))) cs_nil)
  (cs_cons (cs_set (i := 2) (ce_call (IH .f_expression) (hr.mono (by omega)) rfl (Z.mg_ .f_expression) (Z.keep .f_expression) (Z.binds .f_expression) (takes_of rfl rfl rfl rfl) (ca_cons (ce_ix (ix_any (hu_of hr)) p2_ix (ce_var (i := 0)) ce_int) ca_nil)) nd_f_expression)
  (cs_cons (cs_if (PW.pt (ct_or (ct_cmp (op_inB (hu80 hr)) p2_inB (ce_ix (ix_any (hu_of hr)) p2_ix (ce_ix (ix_any (hu_of hr)) p2_ix (ce_var (i := 0)) ce_int) ce_int) (ce_tup (ca_cons ce_str (ca_cons ce_str ca_nil))) rfl) (pw_or1 (ct_cmp (op_eqD (hu64 hr)) p2_eq (ce_ix (ix_any (hu_of hr)) p2_ix (ce_var (i := 2)) ce_int) ce_str rfl)))) (cs_one (cs_set (i := 2) (ce_op op_addA p2_add (ce_op op_addA p2_add ce_str (ce_var (i := 2))) ce_str) nd_f_expression)) cs_nil)
  (cs_one (cs_ret (ce_op op_addA p2_add (ce_op op_addA p2_add (ce_op op_addA p2_add (ce_op op_addA p2_add (ce_call (IH .f_expression) (hr.mono (by omega)) rfl (Z.mg_ .f_expression) (Z.keep .f_expression) (Z.binds .f_expression) (takes_of rfl rfl rfl rfl) (ca_cons (ce_ix (ix_any (hu_of hr)) p2_ix (ce_var (i := 0)) ce_int) ca_nil)) ce_str) (ce_var (i := 1))) ce_str) (ce_var (i := 2))))))))))))
theorem sc_f_divisions : FnScope (locOf .f_divisions) (psOf .f_divisions) (defScope (stOf .f_divisions)) := ⟨rfl, rfl, rfl, by decide +kernel, rfl, by decide +kernel, by decide +kernel⟩
theorem nd_f_divisions : (locOf .f_divisions).Nodup := sc_f_divisions.nd
theorem ok_f_divisions (Z : Fx w K mg base T) {k : Nat} {cs : Fn → Fd} (IH : ∀ f, OkF P w K mg base T Z (4 * k) cs f) : FnOk P w K mg base (L2.CX P w) (4 * k + 3 + 1) (adr K .f_divisions) (Z.fd .f_divisions) (psOf .f_divisions) (spF ⟨K, T, cadK K⟩ (psOf .f_divisions).length (denF (psOf .f_divisions).length (locOf .f_divisions).length (bdOf .f_divisions cs))) := by
  refine fn_bd Z .f_divisions sc_f_divisions fun cdv A outer s ρ0 H E hcd hr => ?_
  have tf := Z.tab_g .f_divisions (by simp)
  have gt : GTab (cxOf (L2.CX P w) P w K mg base (locOf .f_divisions) (nmOf .f_divisions) (defScope (stOf .f_divisions)) (adr K .f_divisions) cdv A outer s H E) T (Z.cT .f_divisions).1 (Z.cT .f_divisions).2 := ⟨tf.tb, hcd.symm.trans tf.code, tf.mem, tf.uniq⟩
  show CSs _ _ _ (b_f_divisions cs)
  unfold b_f_divisions
  exact (cs_cons (cs_if (ct_cmp op_isNotA p2_isNot (ce_callTy call_type1 pn_type rfl Z.no_type boot_type (ca_cons (ce_var (i := 0)) ca_nil)) (ce_ty (T := "tuple") rfl Z.no_tuple boot_tuple) rfl) (cs_one (cs_ret ce_int)) cs_nil)
  (cs_cons (cs_set (i := 1) (ce_if (PW.pt (ct_and (ct_cmp (op_eqD (hu64 hr)) p2_eq (ce_callB call_lenA pn_len rfl Z.no_len boot_len (ca_cons (ce_var (i := 0)) ca_nil)) ce_int rfl) (ct_and (ct_cmp (op_inB (hu80 hr)) p2_inB (ce_ix (ix_any (hu_of hr)) p2_ix (ce_var (i := 0)) ce_int) (ce_tup (ca_cons ce_str (ca_cons ce_str ca_nil))) rfl) (ct_and (ct_cmp op_isA p2_is (ce_callTy call_type1 pn_type rfl Z.no_type boot_type (ca_cons (ce_ix (ix_any (hu_of hr)) p2_ix (ce_var (i := 0)) ce_int) ca_nil)) (ce_ty (T := "str") rfl Z.no_str boot_str) rfl) (pw_and1 (ct_cmp op_isA p2_is (ce_callTy call_type1 pn_type rfl Z.no_type boot_type (ca_cons (ce_ix (ix_any (hu_of hr)) p2_ix (ce_var (i := 0)) ce_int) ca_nil)) (ce_ty (T := "tuple") rfl Z.no_tuple boot_tuple) rfl)))))) ce_int ce_int) nd_f_divisions)
  (cs_one (cs_ret (ce_op op_addA p2_add (ce_var (i := 1)) (ce_sumG (own := [("inner", 2)]) (ts := [2]) hr rfl nd_f_divisions (gsc_by (by show gscB (locOf .f_divisions) (defScope (stOf .f_divisions)) _ _ = true; decide +kernel)) gt (ci_E (ce_var (i := 0))) (fun _ _ _ _ _ _ _ => (cg_name (i := 2) nd_f_divisions)) (fun _ _ _ _ _ _ _ => cts_nil) (fun _ _ _ _ _ _ _ => (ce_call (IH .f_divisions) ((room_gen4 hr).mono (by omega)) rfl (Z.mg_ .f_divisions) (Z.keep .f_divisions) (Z.binds .f_divisions) LamX.takes0 (ca_cons (ce_var (i := 2)) ca_nil))) (by decide) (fun _ => rfl) rfl Z.no_sum))))))
theorem sc_f_statements_in : FnScope (locOf .f_statements_in) (psOf .f_statements_in) (defScope (stOf .f_statements_in)) := ⟨rfl, rfl, rfl, by decide +kernel, rfl, by decide +kernel, by decide +kernel⟩
theorem nd_f_statements_in : (locOf .f_statements_in).Nodup := sc_f_statements_in.nd
theorem ok_f_statements_in (Z : Fx w K mg base T) {k : Nat} {cs : Fn → Fd} (IH : ∀ f, OkF P w K mg base T Z (4 * k) cs f) : FnOk P w K mg base (L2.CX P w) (4 * k + 3 + 1) (adr K .f_statements_in) (Z.fd .f_statements_in) (psOf .f_statements_in) (spF ⟨K, T, cadK K⟩ (psOf .f_statements_in).length (denF (psOf .f_statements_in).length (locOf .f_statements_in).length (bdOf .f_statements_in cs))) := by
  refine fn_bd Z .f_statements_in sc_f_statements_in fun cdv A outer s ρ0 H E hcd hr => ?_
  show CSs _ _ _ (b_f_statements_in cs)
  unfold b_f_statements_in
  exact (cs_cons (cs_set (i := 1) (ce_lst ca_nil) nd_f_statements_in)
  (cs_cons (cs_for (passes_of rfl) rfl (ci_V (i := 0)) (cg_name (i := 2) nd_f_statements_in) (cs_cons (cs_appOwn (i := 1) (ce_var (i := 2)))
  (cs_one (cs_if (ct_cmp (op_eqD (hu64 hr)) p2_eq (ce_ix (ix_any (hu_of hr)) p2_ix (ce_var (i := 2)) ce_int) ce_str rfl) (cs_one (cs_ext (i := 1) (ce_op op_addA p2_add (ce_call (IH .f_statements_in) (hr.mono (by omega)) rfl (Z.mg_ .f_statements_in) (Z.keep .f_statements_in) (Z.binds .f_statements_in) (takes_of rfl rfl rfl rfl) (ca_cons (ce_ix (ix_any (hu_of hr)) p2_ix (ce_var (i := 2)) ce_int) ca_nil)) (ce_call (IH .f_statements_in) (hr.mono (by omega)) rfl (Z.mg_ .f_statements_in) (Z.keep .f_statements_in) (Z.binds .f_statements_in) (takes_of rfl rfl rfl rfl) (ca_cons (ce_ix (ix_any (hu_of hr)) p2_ix (ce_var (i := 2)) ce_int) ca_nil))) nd_f_statements_in)) (cs_one (cs_if (ct_cmp (op_eqD (hu64 hr)) p2_eq (ce_ix (ix_any (hu_of hr)) p2_ix (ce_var (i := 2)) ce_int) ce_str rfl) (cs_one (cs_ext (i := 1) (ce_call (IH .f_statements_in) (hr.mono (by omega)) rfl (Z.mg_ .f_statements_in) (Z.keep .f_statements_in) (Z.binds .f_statements_in) (takes_of rfl rfl rfl rfl) (ca_cons (ce_ix (ix_any (hu_of hr)) p2_ix (ce_var (i := 2)) ce_int) ca_nil)) nd_f_statements_in)) cs_nil))))))
  (cs_one (cs_retV (i := 1)))))
theorem sc_f_type_text : FnScope (locOf .f_type_text) (psOf .f_type_text) (defScope (stOf .f_type_text)) := ⟨rfl, rfl, rfl, by decide +kernel, rfl, by decide +kernel, by decide +kernel⟩
theorem nd_f_type_text : (locOf .f_type_text).Nodup := sc_f_type_text.nd
theorem ok_f_type_text (Z : Fx w K mg base T) {k : Nat} {cs : Fn → Fd} (IH : ∀ f, OkF P w K mg base T Z (4 * k) cs f) : FnOk P w K mg base (L2.CX P w) (4 * k + 3 + 1) (adr K .f_type_text) (Z.fd .f_type_text) (psOf .f_type_text) (spF ⟨K, T, cadK K⟩ (psOf .f_type_text).length (denF (psOf .f_type_text).length (locOf .f_type_text).length (bdOf .f_type_text cs))) := by
  refine fn_bd Z .f_type_text sc_f_type_text fun cdv A outer s ρ0 H E hcd hr => ?_
  show CSs _ _ _ (b_f_type_text cs)
  unfold b_f_type_text
  exact (cs_cons (cs_set (i := 1) (ce_op op_addA p2_add (ce_op op_addA p2_add (ce_callTy call_str_int pn_str rfl Z.no_str boot_str (ca_cons (ce_ix (ix_any (hu_of hr)) p2_ix (ce_var (i := 0)) ce_int) ca_nil)) ce_str) (ce_callTy call_str_int pn_str rfl Z.no_str boot_str (ca_cons (ce_ix (ix_any (hu_of hr)) p2_ix (ce_var (i := 0)) ce_int) ca_nil))) nd_f_type_text)
  (cs_one (cs_ret (ce_if (ct_cmp (op_eqD (hu64 hr)) p2_eq (ce_ix (ix_any (hu_of hr)) p2_ix (ce_var (i := 0)) ce_int) (ce_tup (ca_cons ce_str ca_nil)) rfl) (ce_var (i := 1)) (ce_op op_addA p2_add (ce_op op_addA p2_add (ce_var (i := 1)) ce_str) (ce_call (IH .f_condition) (hr.mono (by omega)) rfl (Z.mg_ .f_condition) (Z.keep .f_condition) (Z.binds .f_condition) (takes_of rfl rfl rfl rfl) (ca_cons (ce_ix (ix_any (hu_of hr)) p2_ix (ce_var (i := 0)) ce_int) ca_nil)))))))
theorem sc_f_tight : FnScope (locOf .f_tight) (psOf .f_tight) (defScope (stOf .f_tight)) := ⟨rfl, rfl, rfl, by decide +kernel, rfl, by decide +kernel, by decide +kernel⟩
theorem nd_f_tight : (locOf .f_tight).Nodup := sc_f_tight.nd
theorem ok_f_tight (Z : Fx w K mg base T) {k : Nat} {cs : Fn → Fd} (IH : ∀ f, OkF P w K mg base T Z (4 * k) cs f) : FnOk P w K mg base (L2.CX P w) (4 * k + 3 + 1) (adr K .f_tight) (Z.fd .f_tight) (psOf .f_tight) (spF ⟨K, T, cadK K⟩ (psOf .f_tight).length (denF (psOf .f_tight).length (locOf .f_tight).length (bdOf .f_tight cs))) := by
  refine fn_bd Z .f_tight sc_f_tight fun cdv A outer s ρ0 H E hcd hr => ?_
  show CSs _ _ _ (b_f_tight cs)
  unfold b_f_tight
  exact (cs_cons (cs_set (i := 1) (ce_call (IH .f_expression) (hr.mono (by omega)) rfl (Z.mg_ .f_expression) (Z.keep .f_expression) (Z.binds .f_expression) (takes_of rfl rfl rfl rfl) (ca_cons (ce_var (i := 0)) ca_nil)) nd_f_tight)
  (cs_one (cs_ret (ce_if (PW.pt (ct_or (ct_cmp (op_eqD (hu64 hr)) p2_eq (ce_ix (ix_any (hu_of hr)) p2_ix (ce_var (i := 0)) ce_int) ce_str rfl) (pw_or1 (PW.pt (ct_and (ct_cmp (op_eqD (hu64 hr)) p2_eq (ce_ix (ix_any (hu_of hr)) p2_ix (ce_var (i := 0)) ce_int) ce_str rfl) (pw_and1 (ct_cmp op_ge p2_ge (ce_ix (ix_any (hu_of hr)) p2_ix (ce_var (i := 0)) ce_int) ce_int rfl))))))) (ce_var (i := 1)) (ce_op op_addA p2_add (ce_op op_addA p2_add ce_str (ce_var (i := 1))) ce_str)))))
theorem sc_f_is_there : FnScope (locOf .f_is_there) (psOf .f_is_there) (defScope (stOf .f_is_there)) := ⟨rfl, rfl, rfl, by decide +kernel, rfl, by decide +kernel, by decide +kernel⟩
theorem nd_f_is_there : (locOf .f_is_there).Nodup := sc_f_is_there.nd
theorem ok_f_is_there (Z : Fx w K mg base T) {k : Nat} {cs : Fn → Fd} (IH : ∀ f, OkF P w K mg base T Z (4 * k) cs f) : FnOk P w K mg base (L2.CX P w) (4 * k + 3 + 1) (adr K .f_is_there) (Z.fd .f_is_there) (psOf .f_is_there) (spF ⟨K, T, cadK K⟩ (psOf .f_is_there).length (denF (psOf .f_is_there).length (locOf .f_is_there).length (bdOf .f_is_there cs))) := by
  refine fn_bd Z .f_is_there sc_f_is_there fun cdv A outer s ρ0 H E hcd hr => ?_
  show CSs _ _ _ (b_f_is_there cs)
  unfold b_f_is_there
  exact (cs_one (cs_ret (ce_and (ce_cmp op_isA p2_is (ce_callTy call_type1 pn_type rfl Z.no_type boot_type (ca_cons (ce_var (i := 0)) ca_nil)) (ce_ty (T := "str") rfl Z.no_str boot_str) rfl) (ce_and1 (ce_or (ce_cmp op_isA p2_is (ce_var (i := 1)) ce_non rfl) (ce_or1 (ce_cmp (op_inB (hu80 hr)) p2_inB (ce_var (i := 0)) (ce_var (i := 1)) rfl)))))))
theorem sc_f_is_number : FnScope (locOf .f_is_number) (psOf .f_is_number) (defScope (stOf .f_is_number)) := ⟨rfl, rfl, rfl, by decide +kernel, rfl, by decide +kernel, by decide +kernel⟩
theorem nd_f_is_number : (locOf .f_is_number).Nodup := sc_f_is_number.nd
theorem ok_f_is_number (Z : Fx w K mg base T) {k : Nat} {cs : Fn → Fd} (IH : ∀ f, OkF P w K mg base T Z (4 * k) cs f) : FnOk P w K mg base (L2.CX P w) (4 * k + 3 + 1) (adr K .f_is_number) (Z.fd .f_is_number) (psOf .f_is_number) (spF ⟨K, T, cadK K⟩ (psOf .f_is_number).length (denF (psOf .f_is_number).length (locOf .f_is_number).length (bdOf .f_is_number cs))) := by
  refine fn_bd Z .f_is_number sc_f_is_number fun cdv A outer s ρ0 H E hcd hr => ?_
  show CSs _ _ _ (b_f_is_number cs)
  unfold b_f_is_number
  exact (cs_one (cs_ret (ce_and (ce_call (IH .f_is_int) (hr.mono (by omega)) rfl (Z.mg_ .f_is_int) (Z.keep .f_is_int) (Z.binds .f_is_int) (takes_of rfl rfl rfl rfl) (ca_cons (ce_var (i := 0)) ca_nil)) (ce_and1 (ce_chain op_le op_le p2_le p2_le (ce_un un_neg p1_neg (ce_globD rfl Z.c_MOST)) (ce_var (i := 0)) (ce_globD rfl Z.c_MOST))))))
theorem sc_f_is_int : FnScope (locOf .f_is_int) (psOf .f_is_int) (defScope (stOf .f_is_int)) := ⟨rfl, rfl, rfl, by decide +kernel, rfl, by decide +kernel, by decide +kernel⟩
theorem nd_f_is_int : (locOf .f_is_int).Nodup := sc_f_is_int.nd
theorem ok_f_is_int (Z : Fx w K mg base T) {k : Nat} {cs : Fn → Fd} (IH : ∀ f, OkF P w K mg base T Z (4 * k) cs f) : FnOk P w K mg base (L2.CX P w) (4 * k + 3 + 1) (adr K .f_is_int) (Z.fd .f_is_int) (psOf .f_is_int) (spF ⟨K, T, cadK K⟩ (psOf .f_is_int).length (denF (psOf .f_is_int).length (locOf .f_is_int).length (bdOf .f_is_int cs))) := by
  refine fn_bd Z .f_is_int sc_f_is_int fun cdv A outer s ρ0 H E hcd hr => ?_
  show CSs _ _ _ (b_f_is_int cs)
  unfold b_f_is_int
  exact (cs_one (cs_ret (ce_cmp op_isA p2_is (ce_callTy call_type1 pn_type rfl Z.no_type boot_type (ca_cons (ce_var (i := 0)) ca_nil)) (ce_ty (T := "int") rfl Z.no_int boot_int) rfl)))
end
end Sk25
set_option Elab.async false
set_option linter.all false
set_option maxRecDepth 100000
set_option maxHeartbeats 4000000
namespace Sk25
open PySem PySem.Spec PyProof.Rows L2 Sh
section
variable {P : Program} {w : World} {K : PySem.W.Frag} {mg : Str → Option Value} {base : Heap} {T : List (Addr × Str)}
theorem sc_f_head_of : FnScope (locOf .f_head_of) (psOf .f_head_of) (defScope (stOf .f_head_of)) := ⟨rfl, rfl, rfl, by decide +kernel, rfl, by decide +kernel, by decide +kernel⟩
theorem nd_f_head_of : (locOf .f_head_of).Nodup := sc_f_head_of.nd
theorem ok_f_head_of (Z : Fx w K mg base T) {k : Nat} {cs : Fn → Fd} (IH : ∀ f, OkF P w K mg base T Z (4 * k) cs f) : FnOk P w K mg base (L2.CX P w) (4 * k + 3 + 1) (adr K .f_head_of) (Z.fd .f_head_of) (psOf .f_head_of) (spF ⟨K, T, cadK K⟩ (psOf .f_head_of).length (denF (psOf .f_head_of).length (locOf .f_head_of).length (bdOf .f_head_of cs))) := by
  refine fn_bd Z .f_head_of sc_f_head_of fun cdv A outer s ρ0 H E hcd hr => ?_
  have tf := Z.tab_g .f_head_of (by simp)
  have gt : GTab (cxOf (L2.CX P w) P w K mg base (locOf .f_head_of) (nmOf .f_head_of) (defScope (stOf .f_head_of)) (adr K .f_head_of) cdv A outer s H E) T (Z.cT .f_head_of).1 (Z.cT .f_head_of).2 := ⟨tf.tb, hcd.symm.trans tf.code, tf.mem, tf.uniq⟩
  show CSs _ _ _ (b_f_head_of cs)
  unfold b_f_head_of
  exact (cs_cons (cs_if (PW.pt (ct_or (ct_cmp op_isNotA p2_isNot (ce_callTy call_type1 pn_type rfl Z.no_type boot_type (ca_cons (ce_var (i := 0)) ca_nil)) (ce_ty (T := "tuple") rfl Z.no_tuple boot_tuple) rfl) (ct_or (ct_cmp (op_neD (hu64 hr)) p2_ne (ce_callB call_lenA pn_len rfl Z.no_len boot_len (ca_cons (ce_var (i := 0)) ca_nil)) ce_int rfl) (ct_or (ct_not (ct_tru (ce_call (IH .f_is_name) (hr.mono (by omega)) rfl (Z.mg_ .f_is_name) (Z.keep .f_is_name) (Z.binds .f_is_name) (takes_of rfl rfl rfl rfl) (ca_cons (ce_ix (ix_any (hu_of hr)) p2_ix (ce_var (i := 0)) ce_int) ca_nil)))) (ct_or (ct_cmp op_isNotA p2_isNot (ce_callTy call_type1 pn_type rfl Z.no_type boot_type (ca_cons (ce_ix (ix_any (hu_of hr)) p2_ix (ce_var (i := 0)) ce_int) ca_nil)) (ce_ty (T := "tuple") rfl Z.no_tuple boot_tuple) rfl) (pw_or1 (ct_cmp op_isNotA p2_isNot (ce_callTy call_type1 pn_type rfl Z.no_type boot_type (ca_cons (ce_ix (ix_any (hu_of hr)) p2_ix (ce_var (i := 0)) ce_int) ca_nil)) (ce_ty (T := "tuple") rfl Z.no_tuple boot_tuple) rfl))))))) (cs_one (cs_ret ce_bl)) cs_nil)
  (cs_cons (cs_if (PW.pt (ct_or (ct_cmp op_gt p2_gt (ce_callB call_lenA pn_len rfl Z.no_len boot_len (ca_cons (ce_ix (ix_any (hu_of hr)) p2_ix (ce_var (i := 0)) ce_int) ca_nil)) ce_int rfl) (pw_or1 (ct_cmp op_gt p2_gt (ce_callB call_lenA pn_len rfl Z.no_len boot_len (ca_cons (ce_ix (ix_any (hu_of hr)) p2_ix (ce_var (i := 0)) ce_int) ca_nil)) ce_int rfl)))) (cs_one (cs_ret ce_bl)) cs_nil)
  (cs_cons (cs_set (i := 1) (ce_lst ca_nil) nd_f_head_of)
  (cs_cons (cs_for (passes_of rfl) rfl (ci_S (ce_ix (ix_any (hu_of hr)) p2_ix (ce_var (i := 0)) ce_int)) (cg_name (i := 2) nd_f_head_of) (cs_cons (cs_if (PW.pt (ct_or (ct_cmp op_isNotA p2_isNot (ce_callTy call_type1 pn_type rfl Z.no_type boot_type (ca_cons (ce_var (i := 2)) ca_nil)) (ce_ty (T := "tuple") rfl Z.no_tuple boot_tuple) rfl) (ct_or (ct_cmp (op_neD (hu64 hr)) p2_ne (ce_callB call_lenA pn_len rfl Z.no_len boot_len (ca_cons (ce_var (i := 2)) ca_nil)) ce_int rfl) (ct_or (ct_not (ct_tru (ce_call (IH .f_is_name) (hr.mono (by omega)) rfl (Z.mg_ .f_is_name) (Z.keep .f_is_name) (Z.binds .f_is_name) (takes_of rfl rfl rfl rfl) (ca_cons (ce_ix (ix_any (hu_of hr)) p2_ix (ce_var (i := 2)) ce_int) ca_nil)))) (pw_or1 (ct_not (ct_tru (ce_call (IH .f_is_type) (hr.mono (by omega)) rfl (Z.mg_ .f_is_type) (Z.keep .f_is_type) (Z.binds .f_is_type) (takes_of rfl rfl rfl rfl) (ca_cons (ce_ix (ix_any (hu_of hr)) p2_ix (ce_var (i := 2)) ce_int) (ca_cons (ce_var (i := 1)) ca_nil)))))))))) (cs_one (cs_ret ce_bl)) cs_nil)
  (cs_one (cs_appOwn (i := 1) (ce_ix (ix_any (hu_of hr)) p2_ix (ce_var (i := 2)) ce_int)))))
  (cs_cons (cs_set (i := 3) (ce_callTy call_list_of pn_list rfl Z.no_list boot_list (ca_cons (ce_var (i := 1)) ca_nil)) nd_f_head_of)
  (cs_cons (cs_for (passes_of rfl) rfl (ci_S (ce_ix (ix_any (hu_of hr)) p2_ix (ce_var (i := 0)) ce_int)) (cg_name (i := 4) nd_f_head_of) (cs_cons (cs_if (PW.pt (ct_or (ct_cmp op_isNotA p2_isNot (ce_callTy call_type1 pn_type rfl Z.no_type boot_type (ca_cons (ce_var (i := 4)) ca_nil)) (ce_ty (T := "tuple") rfl Z.no_tuple boot_tuple) rfl) (ct_or (ct_cmp (op_neD (hu64 hr)) p2_ne (ce_callB call_lenA pn_len rfl Z.no_len boot_len (ca_cons (ce_var (i := 4)) ca_nil)) ce_int rfl) (ct_or (ct_not (ct_tru (ce_call (IH .f_is_name) (hr.mono (by omega)) rfl (Z.mg_ .f_is_name) (Z.keep .f_is_name) (Z.binds .f_is_name) (takes_of rfl rfl rfl rfl) (ca_cons (ce_ix (ix_any (hu_of hr)) p2_ix (ce_var (i := 4)) ce_int) ca_nil)))) (pw_or1 (ct_not (ct_tru (ce_all (own := [("k", 5)]) (ts := [5]) hr rfl nd_f_head_of (gsc_by (by show gscB (locOf .f_head_of) (defScope (stOf .f_head_of)) _ _ = true; decide +kernel)) gt (ci_E (ce_slice (ce_var (i := 4)) (co_some ce_int) co_none)) (fun _ _ _ _ _ _ _ => (cg_name (i := 5) nd_f_head_of)) (fun _ _ _ _ _ _ _ => cts_nil) (fun _ _ _ _ _ _ _ => (ce_call (IH .f_is_number) ((room_gen hr).mono (by omega)) rfl (Z.mg_ .f_is_number) (Z.keep .f_is_number) (Z.binds .f_is_number) LamX.takes0 (ca_cons (ce_var (i := 5)) ca_nil))) (by decide) (fun _ => rfl) rfl Z.no_all)))))))) (cs_one (cs_ret ce_bl)) cs_nil)
  (cs_cons (cs_if (PW.pt (ct_or (ct_not (ct_chain op_le op_le p2_le p2_le ce_int (ce_ix (ix_any (hu_of hr)) p2_ix (ce_var (i := 4)) ce_int) ce_int)) (pw_or1 (ct_cmp op_gt p2_gt (ce_ix (ix_any (hu_of hr)) p2_ix (ce_var (i := 4)) ce_int) (ce_ix (ix_any (hu_of hr)) p2_ix (ce_var (i := 4)) ce_int) rfl)))) (cs_one (cs_ret ce_bl)) cs_nil)
  (cs_one (cs_appOwn (i := 3) (ce_ix (ix_any (hu_of hr)) p2_ix (ce_var (i := 4)) ce_int))))))
  (cs_one (cs_ret (ce_and (ce_cmp (op_eqD (hu64 hr)) p2_eq (ce_lenSet rfl rfl Z.no_len rfl Z.no_set (ce_var (i := 3))) (ce_callB call_lenA pn_len rfl Z.no_len boot_len (ca_cons (ce_var (i := 3)) ca_nil)) rfl) (ce_and (ce_call (IH .f_is_expression) (hr.mono (by omega)) rfl (Z.mg_ .f_is_expression) (Z.keep .f_is_expression) (Z.binds .f_is_expression) (takes_of rfl rfl rfl rfl) (ca_cons (ce_ix (ix_any (hu_of hr)) p2_ix (ce_var (i := 0)) ce_int) (ca_cons (ce_var (i := 1)) ca_nil))) (ce_and1 (ce_call (IH .f_is_type) (hr.mono (by omega)) rfl (Z.mg_ .f_is_type) (Z.keep .f_is_type) (Z.binds .f_is_type) (takes_of rfl rfl rfl rfl) (ca_cons (ce_ix (ix_any (hu_of hr)) p2_ix (ce_var (i := 0)) ce_int) (ca_cons (ce_var (i := 1)) ca_nil))))))))))))))
theorem sc_f_function_fits : FnScope (locOf .f_function_fits) (psOf .f_function_fits) (defScope (stOf .f_function_fits)) := ⟨rfl, rfl, rfl, by decide +kernel, rfl, by decide +kernel, by decide +kernel⟩
theorem nd_f_function_fits : (locOf .f_function_fits).Nodup := sc_f_function_fits.nd
theorem ok_f_function_fits (Z : Fx w K mg base T) {k : Nat} {cs : Fn → Fd} (IH : ∀ f, OkF P w K mg base T Z (4 * k) cs f) : FnOk P w K mg base (L2.CX P w) (4 * k + 3 + 1) (adr K .f_function_fits) (Z.fd .f_function_fits) (psOf .f_function_fits) (spF ⟨K, T, cadK K⟩ (psOf .f_function_fits).length (denF (psOf .f_function_fits).length (locOf .f_function_fits).length (bdOf .f_function_fits cs))) := by
  refine fn_bd Z .f_function_fits sc_f_function_fits fun cdv A outer s ρ0 H E hcd hr => ?_
  have tf := Z.tab_g .f_function_fits (by simp)
  have gt : GTab (cxOf (L2.CX P w) P w K mg base (locOf .f_function_fits) (nmOf .f_function_fits) (defScope (stOf .f_function_fits)) (adr K .f_function_fits) cdv A outer s H E) T (Z.cT .f_function_fits).1 (Z.cT .f_function_fits).2 := ⟨tf.tb, hcd.symm.trans tf.code, tf.mem, tf.uniq⟩
  show CSs _ _ _ (b_f_function_fits cs)
  unfold b_f_function_fits
  exact (cs_cons (cs_if (PW.pt (ct_or (ct_not (ct_tru (ce_call (IH .f_block_fits) (hr.mono (by omega)) rfl (Z.mg_ .f_block_fits) (Z.keep .f_block_fits) (Z.binds .f_block_fits) (takes_of rfl rfl rfl rfl) (ca_cons (ce_ix (ix_any (hu_of hr)) p2_ix (ce_var (i := 1)) ce_int) (ca_cons ce_int ca_nil))))) (pw_or1 (ct_not (ct_tru (ce_call (IH .f_ends) (hr.mono (by omega)) rfl (Z.mg_ .f_ends) (Z.keep .f_ends) (Z.binds .f_ends) (takes_of rfl rfl rfl rfl) (ca_cons (ce_ix (ix_any (hu_of hr)) p2_ix (ce_var (i := 1)) ce_int) ca_nil))))))) (cs_one (cs_ret ce_bl)) cs_nil)
  (cs_cons (cs_set (i := 2) (ce_call (IH .f_statements_in) (hr.mono (by omega)) rfl (Z.mg_ .f_statements_in) (Z.keep .f_statements_in) (Z.binds .f_statements_in) (takes_of rfl rfl rfl rfl) (ca_cons (ce_ix (ix_any (hu_of hr)) p2_ix (ce_var (i := 1)) ce_int) ca_nil)) nd_f_function_fits)
  (cs_cons (cs_set (i := 3) (ce_sumG (own := [("s", 4)]) (ts := [4]) hr rfl nd_f_function_fits (gsc_by (by show gscB (locOf .f_function_fits) (defScope (stOf .f_function_fits)) _ _ = true; decide +kernel)) gt (ci_E (ce_var (i := 2))) (fun _ _ _ _ _ _ _ => (cg_name (i := 4) nd_f_function_fits)) (fun _ _ _ _ _ _ _ => (cts_one (ct_cmp (op_inB (hu80 (room_gen4 hr))) p2_inB (ce_ix (ix_any (hu_of (room_gen4 hr))) p2_ix (ce_var (i := 4)) ce_int) (ce_tup (ca_cons ce_str (ca_cons ce_str ca_nil))) rfl))) (fun _ _ _ _ _ _ _ => ce_int) (by decide) (fun _ => rfl) rfl Z.no_sum) nd_f_function_fits)
  (cs_cons (cs_set (i := 5) (ce_sumG (own := [("s", 4)]) (ts := [4]) hr rfl nd_f_function_fits (gsc_by (by show gscB (locOf .f_function_fits) (defScope (stOf .f_function_fits)) _ _ = true; decide +kernel)) gt (ci_E (ce_var (i := 2))) (fun _ _ _ _ _ _ _ => (cg_name (i := 4) nd_f_function_fits)) (fun _ _ _ _ _ _ _ => (cts_one (ct_cmp (op_inB (hu80 (room_gen4 hr))) p2_inB (ce_ix (ix_any (hu_of (room_gen4 hr))) p2_ix (ce_var (i := 4)) ce_int) (ce_tup (ca_cons ce_str (ca_cons ce_str ca_nil))) rfl))) (fun _ _ _ _ _ _ _ => ce_int) (by decide) (fun _ => rfl) rfl Z.no_sum) nd_f_function_fits)
  (cs_cons (cs_if (PW.pt (ct_or (ct_cmp op_gt p2_gt (ce_callB call_lenA pn_len rfl Z.no_len boot_len (ca_cons (ce_var (i := 2)) ca_nil)) ce_int rfl) (ct_or (ct_cmp op_gt p2_gt (ce_var (i := 3)) ce_int rfl) (pw_or1 (ct_cmp op_gt p2_gt (ce_var (i := 5)) ce_int rfl))))) (cs_one (cs_ret ce_bl)) cs_nil)
  (cs_cons (cs_setLc (ix := 6) (hy := rfl) (hyl := rfl) (hsw := sw_true rfl rfl rfl rfl) (own := [("p", 7)]) (ts := [7]) rfl nd_f_function_fits (blkOk_by (by show blkC (locOf .f_function_fits) (defScope (stOf .f_function_fits)) _ _ = true; decide +kernel)) (ci_E (ce_ix (ix_any (hu_of hr)) p2_ix (ce_var (i := 1)) ce_int)) (fun _ _ _ _ _ => (cg_name (i := 7) nd_f_function_fits)) (fun _ _ _ _ _ => cts_nil) (fun _ _ _ _ _ => (ce_ix (ix_any (hu_of hr)) p2_ix (ce_var (i := 7)) ce_int)) (by decide))
  (cs_cons (cs_if (ct_not (ct_tru (ce_call (IH .f_names_fit) (hr.mono (by omega)) rfl (Z.mg_ .f_names_fit) (Z.keep .f_names_fit) (Z.binds .f_names_fit) (takes_of rfl rfl rfl rfl) (ca_cons (ce_var (i := 0)) (ca_cons (ce_var (i := 1)) (ca_cons (ce_ix (ix_any (hu_of hr)) p2_ix (ce_var (i := 1)) ce_int) (ca_cons (ce_var (i := 6)) (ca_cons (ce_tup ca_nil) ca_nil)))))))) (cs_one (cs_ret ce_bl)) cs_nil)
  (cs_cons (cs_set (i := 8) (ce_op op_addA p2_add (ce_op op_addA p2_add (ce_var (i := 6)) (ce_lc (own := [("r", 9)]) (ts := [9]) rfl nd_f_function_fits (blkOk_by (by show blkC (locOf .f_function_fits) (defScope (stOf .f_function_fits)) _ _ = true; decide +kernel)) (ci_E (ce_ix (ix_any (hu_of hr)) p2_ix (ce_var (i := 1)) ce_int)) (fun _ _ _ _ _ => (cg_name (i := 9) nd_f_function_fits)) (fun _ _ _ _ _ => cts_nil) (fun _ _ _ _ _ => (ce_ix (ix_any (hu_of hr)) p2_ix (ce_var (i := 9)) ce_int)) (by decide))) (ce_lc (own := [("s", 4)]) (ts := [4]) rfl nd_f_function_fits (blkOk_by (by show blkC (locOf .f_function_fits) (defScope (stOf .f_function_fits)) _ _ = true; decide +kernel)) (ci_E (ce_var (i := 2))) (fun _ _ _ _ _ => (cg_name (i := 4) nd_f_function_fits)) (fun _ _ _ _ _ => (cts_one (ct_cmp (op_inB (hu80 hr)) p2_inB (ce_ix (ix_any (hu_of hr)) p2_ix (ce_var (i := 4)) ce_int) (ce_tup (ca_cons ce_str (ca_cons ce_str (ca_cons ce_str ca_nil)))) rfl))) (fun _ _ _ _ _ => (ce_ix (ix_any (hu_of hr)) p2_ix (ce_var (i := 4)) ce_int)) (by decide))) nd_f_function_fits)
  (cs_one (cs_ret (ce_and (ce_cmp (op_eqD (hu64 hr)) p2_eq (ce_lenSet rfl rfl Z.no_len rfl Z.no_set (ce_var (i := 8))) (ce_callB call_lenA pn_len rfl Z.no_len boot_len (ca_cons (ce_var (i := 8)) ca_nil)) rfl) (ce_and1 (ce_cmp op_le p2_le (ce_call (IH .f_divisions) (hr.mono (by omega)) rfl (Z.mg_ .f_divisions) (Z.keep .f_divisions) (Z.binds .f_divisions) (takes_of rfl rfl rfl rfl) (ca_cons (ce_var (i := 1)) ca_nil)) ce_int rfl)))))))))))))
theorem sc_f_condition_parts : FnScope (locOf .f_condition_parts) (psOf .f_condition_parts) (defScope (stOf .f_condition_parts)) := ⟨rfl, rfl, rfl, by decide +kernel, rfl, by decide +kernel, by decide +kernel⟩
theorem nd_f_condition_parts : (locOf .f_condition_parts).Nodup := sc_f_condition_parts.nd
theorem ok_f_condition_parts (Z : Fx w K mg base T) {k : Nat} {cs : Fn → Fd} (IH : ∀ f, OkF P w K mg base T Z (4 * k) cs f) : FnOk P w K mg base (L2.CX P w) (4 * k + 3 + 1) (adr K .f_condition_parts) (Z.fd .f_condition_parts) (psOf .f_condition_parts) (spF ⟨K, T, cadK K⟩ (psOf .f_condition_parts).length (denF (psOf .f_condition_parts).length (locOf .f_condition_parts).length (bdOf .f_condition_parts cs))) := by
  refine fn_bd Z .f_condition_parts sc_f_condition_parts fun cdv A outer s ρ0 H E hcd hr => ?_
  show CSs _ _ _ (b_f_condition_parts cs)
  unfold b_f_condition_parts
  exact (cs_cons (cs_if (PW.pt (ct_or (ct_cmp op_isNotA p2_isNot (ce_callTy call_type1 pn_type rfl Z.no_type boot_type (ca_cons (ce_var (i := 0)) ca_nil)) (ce_ty (T := "tuple") rfl Z.no_tuple boot_tuple) rfl) (ct_or (ct_not (ct_tru (ce_var (i := 0)))) (pw_or1 (ct_cmp op_isNotA p2_isNot (ce_callTy call_type1 pn_type rfl Z.no_type boot_type (ca_cons (ce_ix (ix_any (hu_of hr)) p2_ix (ce_var (i := 0)) ce_int) ca_nil)) (ce_ty (T := "str") rfl Z.no_str boot_str) rfl))))) (cs_one (cs_ret ce_int)) cs_nil)
  (cs_cons (cs_if (ct_cmp (op_eqD (hu64 hr)) p2_eq (ce_ix (ix_any (hu_of hr)) p2_ix (ce_var (i := 0)) ce_int) ce_str rfl) (cs_one (cs_ret (ce_if (ct_cmp (op_eqD (hu64 hr)) p2_eq (ce_callB call_lenA pn_len rfl Z.no_len boot_len (ca_cons (ce_var (i := 0)) ca_nil)) ce_int rfl) ce_int ce_int))) cs_nil)
  (cs_cons (cs_if (ct_cmp (op_eqD (hu64 hr)) p2_eq (ce_ix (ix_any (hu_of hr)) p2_ix (ce_var (i := 0)) ce_int) ce_str rfl) (cs_cons (cs_set (i := 2) (ce_if (ct_cmp (op_eqD (hu64 hr)) p2_eq (ce_callB call_lenA pn_len rfl Z.no_len boot_len (ca_cons (ce_var (i := 0)) ca_nil)) ce_int rfl) (ce_call (IH .f_condition_parts) (hr.mono (by omega)) rfl (Z.mg_ .f_condition_parts) (Z.keep .f_condition_parts) (Z.binds .f_condition_parts) (takes_of rfl rfl rfl rfl) (ca_cons (ce_ix (ix_any (hu_of hr)) p2_ix (ce_var (i := 0)) ce_int) (ca_cons (ce_var (i := 1)) ca_nil))) ce_int) nd_f_condition_parts)
  (cs_one (cs_ret (ce_if (ct_tru (ce_var (i := 2))) (ce_op op_addA p2_add (ce_var (i := 2)) ce_int) ce_int)))) cs_nil)
  (cs_cons (cs_if (ct_cmp (op_neD (hu64 hr)) p2_ne (ce_callB call_lenA pn_len rfl Z.no_len boot_len (ca_cons (ce_var (i := 0)) ca_nil)) ce_int rfl) (cs_one (cs_ret ce_int)) cs_nil)
  (cs_cons (cs_if (ct_cmp (op_inB (hu80 hr)) p2_inB (ce_ix (ix_any (hu_of hr)) p2_ix (ce_var (i := 0)) ce_int) (ce_tup (ca_cons ce_str (ca_cons ce_str (ca_cons ce_str (ca_cons ce_str ca_nil))))) rfl) (cs_one (cs_par2 (i := 3) (j := 4) rfl nd_f_condition_parts rfl rfl (by decide) rfl rfl (ca_cons (ce_call (IH .f_expression_parts) (hr.mono (by omega)) rfl (Z.mg_ .f_expression_parts) (Z.keep .f_expression_parts) (Z.binds .f_expression_parts) (takes_of rfl rfl rfl rfl) (ca_cons (ce_ix (ix_any (hu_of hr)) p2_ix (ce_var (i := 0)) ce_int) (ca_cons (ce_var (i := 1)) ca_nil))) (ca_cons (ce_call (IH .f_expression_parts) (hr.mono (by omega)) rfl (Z.mg_ .f_expression_parts) (Z.keep .f_expression_parts) (Z.binds .f_expression_parts) (takes_of rfl rfl rfl rfl) (ca_cons (ce_ix (ix_any (hu_of hr)) p2_ix (ce_var (i := 0)) ce_int) (ca_cons (ce_var (i := 1)) ca_nil))) ca_nil)) rfl)) (cs_one (cs_if (ct_cmp (op_inB (hu80 hr)) p2_inB (ce_ix (ix_any (hu_of hr)) p2_ix (ce_var (i := 0)) ce_int) (ce_tup (ca_cons ce_str (ca_cons ce_str ca_nil))) rfl) (cs_one (cs_par2 (i := 3) (j := 4) rfl nd_f_condition_parts rfl rfl (by decide) rfl rfl (ca_cons (ce_call (IH .f_condition_parts) (hr.mono (by omega)) rfl (Z.mg_ .f_condition_parts) (Z.keep .f_condition_parts) (Z.binds .f_condition_parts) (takes_of rfl rfl rfl rfl) (ca_cons (ce_ix (ix_any (hu_of hr)) p2_ix (ce_var (i := 0)) ce_int) (ca_cons (ce_var (i := 1)) ca_nil))) (ca_cons (ce_call (IH .f_condition_parts) (hr.mono (by omega)) rfl (Z.mg_ .f_condition_parts) (Z.keep .f_condition_parts) (Z.binds .f_condition_parts) (takes_of rfl rfl rfl rfl) (ca_cons (ce_ix (ix_any (hu_of hr)) p2_ix (ce_var (i := 0)) ce_int) (ca_cons (ce_var (i := 1)) ca_nil))) ca_nil)) rfl)) (cs_one (cs_ret ce_int)))))
  (cs_one (cs_ret (ce_if (PW.pt (ct_and (ct_tru (ce_var (i := 3))) (pw_and1 (ct_tru (ce_var (i := 4)))))) (ce_op op_addA p2_add (ce_op op_addA p2_add (ce_var (i := 3)) (ce_var (i := 4))) ce_int) ce_int))))))))
theorem sc_f_law : FnScope (locOf .f_law) (psOf .f_law) (defScope (stOf .f_law)) := ⟨rfl, rfl, rfl, by decide +kernel, rfl, by decide +kernel, by decide +kernel⟩
theorem nd_f_law : (locOf .f_law).Nodup := sc_f_law.nd
theorem ok_f_law (Z : Fx w K mg base T) {k : Nat} {cs : Fn → Fd} (IH : ∀ f, OkF P w K mg base T Z (4 * k) cs f) : FnOk P w K mg base (L2.CX P w) (4 * k + 3 + 1) (adr K .f_law) (Z.fd .f_law) (psOf .f_law) (spF ⟨K, T, cadK K⟩ (psOf .f_law).length (denF (psOf .f_law).length (locOf .f_law).length (bdOf .f_law cs))) := by
  refine fn_bd Z .f_law sc_f_law fun cdv A outer s ρ0 H E hcd hr => ?_
  obtain ⟨cdT, lt⟩ := told_at Z cdv A outer s H E IH hr
  show CSs _ _ _ (b_f_law cs)
  unfold b_f_law
  exact (cs_cons (cs_set (i := 1) (ce_share (ce_call (IH .f_law_stream) (hr.mono (by omega)) rfl (Z.mg_ .f_law_stream) (Z.keep .f_law_stream) (Z.binds .f_law_stream) (takes_of rfl rfl rfl rfl) (ca_cons (ce_var (i := 0)) (ca_cons ce_int ca_nil)))) nd_f_law)
  (cs_cons (cs_for (passes_of rfl) rfl (ci_range1 (fz := fzS _) rfl Z.no_range ce_int) (cg_name (i := 2) nd_f_law) (cs_cons (cs_set (i := 3) (ce_if (ct_cmp op_gt p2_gt (ce_var (i := 2)) ce_int rfl) (ce_call (IH .f_law_draw) (hr.mono (by omega)) rfl (Z.mg_ .f_law_draw) (Z.keep .f_law_draw) (Z.binds .f_law_draw) (takes_of rfl rfl rfl rfl) (ca_cons (ce_var (i := 1)) (ca_cons ce_int ca_nil))) (ce_op op_mod p2_mod (ce_callB call_lenA pn_len rfl Z.no_len boot_len (ca_cons (ce_var (i := 0)) ca_nil)) ce_int)) nd_f_law)
  (cs_one (cs_for (passes_of rfl) rfl (ci_S (ce_tup (ca_cons ce_int (ca_cons ce_int ca_nil)))) (cg_name (i := 4) nd_f_law) (cs_cons (cs_set (i := 5) (ce_call (IH .f_law_sized) (hr.mono (by omega)) rfl (Z.mg_ .f_law_sized) (Z.keep .f_law_sized) (Z.binds .f_law_sized) (takes_of rfl rfl rfl rfl) (ca_cons (ce_var (i := 3)) (ca_cons (ce_var (i := 4)) ca_nil))) nd_f_law)
  (cs_cons (cs_if (ct_cmp (op_neD (hu64 hr)) p2_ne (ce_gc (ce_told (k := 4 * k + 1) rfl lt.1 lt.2 Z.told Z.tab_l.tb (hcd.symm.trans Z.tab_l.code) Z.tab_l.mem Z.tab_l.uniq (hr.mono (by omega)) (LamX.lamS_by (by show LamX.lamSB (defScope (stOf .f_law)) _ = true; decide +kernel)) rfl (fun _ _ _ _ _ => rfl) (fun _ _ _ _ _ _ _ hl => (ce_call (IH .f_is_whole) (hl.mono (by omega)) rfl (Z.mg_ .f_is_whole) (Z.keep .f_is_whole) (Z.binds .f_is_whole) (takes_of rfl rfl rfl rfl) (ca_cons (ce_var (i := 5)) ca_nil))))) (ce_tup (ca_cons ce_int (ca_cons (ce_cmp (op_eqD (hu64 hr)) p2_eq (ce_var (i := 4)) ce_int rfl) ca_nil))) rfl) (cs_one (cs_ret ce_bl)) cs_nil)
  (cs_cons (cs_set (i := 6) (ce_gc (ce_told (k := 4 * k + 1) rfl lt.1 lt.2 Z.told Z.tab_l.tb (hcd.symm.trans Z.tab_l.code) Z.tab_l.mem Z.tab_l.uniq (hr.mono (by omega)) (LamX.lamS_by (by show LamX.lamSB (defScope (stOf .f_law)) _ = true; decide +kernel)) rfl (fun _ _ _ _ _ => rfl) (fun _ _ _ _ _ _ _ hl => (ce_call (IH .f_write) (hl.mono (by omega)) rfl (Z.mg_ .f_write) (Z.keep .f_write) (Z.binds .f_write) (takes_of rfl rfl rfl rfl) (ca_cons (ce_var (i := 5)) ca_nil))))) nd_f_law)
  (cs_one (cs_if (PW.pt (ct_or (ct_cmp (op_neD (hu64 hr)) p2_ne (ce_cmp (op_eqD (hu64 hr)) p2_eq (ce_ix (ix_any (hu_of hr)) p2_ix (ce_var (i := 6)) ce_int) ce_int rfl) (ce_cmp (op_eqD (hu64 hr)) p2_eq (ce_var (i := 4)) ce_int rfl) rfl) (pw_or1 (PW.pt (ct_and (ct_cmp (op_eqD (hu64 hr)) p2_eq (ce_var (i := 4)) ce_int rfl) (pw_and1 (ct_cmp (op_neD (hu64 hr)) p2_ne (ce_var (i := 6)) (ce_tup (ca_cons ce_int (ca_cons ce_str ca_nil))) rfl))))))) (cs_one (cs_ret ce_bl)) cs_nil)))))))))
  (cs_one (cs_ret ce_bl))))
theorem sc_f_is_whole : FnScope (locOf .f_is_whole) (psOf .f_is_whole) (defScope (stOf .f_is_whole)) := ⟨rfl, rfl, rfl, by decide +kernel, rfl, by decide +kernel, by decide +kernel⟩
theorem nd_f_is_whole : (locOf .f_is_whole).Nodup := sc_f_is_whole.nd
theorem ok_f_is_whole (Z : Fx w K mg base T) {k : Nat} {cs : Fn → Fd} (IH : ∀ f, OkF P w K mg base T Z (4 * k) cs f) : FnOk P w K mg base (L2.CX P w) (4 * k + 3 + 1) (adr K .f_is_whole) (Z.fd .f_is_whole) (psOf .f_is_whole) (spF ⟨K, T, cadK K⟩ (psOf .f_is_whole).length (denF (psOf .f_is_whole).length (locOf .f_is_whole).length (bdOf .f_is_whole cs))) := by
  refine fn_bd Z .f_is_whole sc_f_is_whole fun cdv A outer s ρ0 H E hcd hr => ?_
  have tf := Z.tab_g .f_is_whole (by simp)
  have gt : GTab (cxOf (L2.CX P w) P w K mg base (locOf .f_is_whole) (nmOf .f_is_whole) (defScope (stOf .f_is_whole)) (adr K .f_is_whole) cdv A outer s H E) T (Z.cT .f_is_whole).1 (Z.cT .f_is_whole).2 := ⟨tf.tb, hcd.symm.trans tf.code, tf.mem, tf.uniq⟩
  show CSs _ _ _ (b_f_is_whole cs)
  unfold b_f_is_whole
  exact (cs_cons (cs_if (PW.pt (ct_or (ct_cmp op_isNotA p2_isNot (ce_callTy call_type1 pn_type rfl Z.no_type boot_type (ca_cons (ce_var (i := 0)) ca_nil)) (ce_ty (T := "tuple") rfl Z.no_tuple boot_tuple) rfl) (ct_or (ct_not (ct_chain op_le op_le p2_le p2_le ce_int (ce_callB call_lenA pn_len rfl Z.no_len boot_len (ca_cons (ce_var (i := 0)) ca_nil)) ce_int)) (pw_or1 (ct_not (ct_tru (ce_all (own := [("f", 1)]) (ts := [1]) hr rfl nd_f_is_whole (gsc_by (by show gscB (locOf .f_is_whole) (defScope (stOf .f_is_whole)) _ _ = true; decide +kernel)) gt (ci_E (ce_var (i := 0))) (fun _ _ _ _ _ _ _ => (cg_name (i := 1) nd_f_is_whole)) (fun _ _ _ _ _ _ _ => cts_nil) (fun _ _ _ _ _ _ _ => (ce_call (IH .f_head_fits) ((room_gen hr).mono (by omega)) rfl (Z.mg_ .f_head_fits) (Z.keep .f_head_fits) (Z.binds .f_head_fits) LamX.takes0 (ca_cons (ce_var (i := 1)) ca_nil))) (by decide) (fun _ => rfl) rfl Z.no_all))))))) (cs_one (cs_ret ce_bl)) cs_nil)
  (cs_cons (cs_set (i := 2) (ce_dc (own := [("f", 1)]) (ts := [1]) rfl nd_f_is_whole (blkOk_by (by show blkC (locOf .f_is_whole) (defScope (stOf .f_is_whole)) _ _ = true; decide +kernel)) (ci_E (ce_var (i := 0))) (fun _ _ _ _ _ => (cg_name (i := 1) nd_f_is_whole)) (fun _ _ _ _ _ => cts_nil) (fun _ _ _ _ _ => (ce_ix (ix_any (hu_of hr)) p2_ix (ce_var (i := 1)) ce_int)) (fun _ _ _ _ _ => (ce_var (i := 1))) (by decide)) nd_f_is_whole)
  (cs_one (cs_ret (ce_and (ce_cmp (op_eqD (hu64 hr)) p2_eq (ce_callB call_lenA pn_len rfl Z.no_len boot_len (ca_cons (ce_var (i := 2)) ca_nil)) (ce_callB call_lenA pn_len rfl Z.no_len boot_len (ca_cons (ce_var (i := 0)) ca_nil)) rfl) (ce_and1 (ce_all (own := [("f", 1)]) (ts := [1]) hr rfl nd_f_is_whole (gsc_by (by show gscB (locOf .f_is_whole) (defScope (stOf .f_is_whole)) _ _ = true; decide +kernel)) gt (ci_E (ce_var (i := 0))) (fun _ _ _ _ _ _ _ => (cg_name (i := 1) nd_f_is_whole)) (fun _ _ _ _ _ _ _ => cts_nil) (fun _ _ _ _ _ _ _ => (ce_call (IH .f_function_fits) ((room_gen hr).mono (by omega)) rfl (Z.mg_ .f_function_fits) (Z.keep .f_function_fits) (Z.binds .f_function_fits) LamX.takes0 (ca_cons (ce_var (i := 2)) (ca_cons (ce_var (i := 1)) ca_nil)))) (by decide) (fun _ => rfl) rfl Z.no_all)))))))
theorem sc_f_write : FnScope (locOf .f_write) (psOf .f_write) (defScope (stOf .f_write)) := ⟨rfl, rfl, rfl, by decide +kernel, rfl, by decide +kernel, by decide +kernel⟩
theorem nd_f_write : (locOf .f_write).Nodup := sc_f_write.nd
theorem ok_f_write (Z : Fx w K mg base T) {k : Nat} {cs : Fn → Fd} (IH : ∀ f, OkF P w K mg base T Z (4 * k) cs f) : FnOk P w K mg base (L2.CX P w) (4 * k + 3 + 1) (adr K .f_write) (Z.fd .f_write) (psOf .f_write) (spF ⟨K, T, cadK K⟩ (psOf .f_write).length (denF (psOf .f_write).length (locOf .f_write).length (bdOf .f_write cs))) := by
  refine fn_bd Z .f_write sc_f_write fun cdv A outer s ρ0 H E hcd hr => ?_
  have tf := Z.tab_g .f_write (by simp)
  have gt : GTab (cxOf (L2.CX P w) P w K mg base (locOf .f_write) (nmOf .f_write) (defScope (stOf .f_write)) (adr K .f_write) cdv A outer s H E) T (Z.cT .f_write).1 (Z.cT .f_write).2 := ⟨tf.tb, hcd.symm.trans tf.code, tf.mem, tf.uniq⟩
  show CSs _ _ _ (b_f_write cs)
  unfold b_f_write
  exact (cs_cons (cs_ex (ce_call (IH .f_whole) (hr.mono (by omega)) rfl (Z.mg_ .f_whole) (Z.keep .f_whole) (Z.binds .f_whole) (takes_of rfl rfl rfl rfl) (ca_cons (ce_var (i := 0)) ca_nil)))
  (cs_one (cs_ret (ce_joinG2x (own := [("f", 1), ("row", 2)]) (vs1 := [2]) (ts := [1]) (ts1 := [2]) hr rfl nd_f_write (gsc_by (by show gscB (locOf .f_write) (defScope (stOf .f_write)) _ _ = true; decide +kernel)) gt (by decide) (ko_nm _) ce_str (ci_E (ce_var (i := 0))) (fun _ _ _ _ _ _ _ => (cg_name (i := 1) nd_f_write)) (fun _ _ _ _ _ _ _ => cts_nil) (fun _ _ _ _ _ _ _ => (ci_S (ce_op op_addA p2_add (ce_lst (ca_cons (ce_call (IH .f_head) ((room_gen4 hr).mono (by omega)) rfl (Z.mg_ .f_head) (Z.keep .f_head) (Z.binds .f_head) LamX.takes0 (ca_cons (ce_var (i := 1)) ca_nil)) ca_nil)) (ce_call (IH .f_block_rows) ((room_gen4 hr).mono (by omega)) rfl (Z.mg_ .f_block_rows) (Z.keep .f_block_rows) (Z.binds .f_block_rows) LamX.takes0 (ca_cons (ce_ix (ix_any (hu_of (room_gen4 hr))) p2_ix (ce_var (i := 1)) ce_int) (ca_cons ce_str ca_nil)))))) (fun _ _ _ _ _ _ _ => (cg_name (i := 2) nd_f_write)) (fun _ _ _ _ _ _ _ => cts_nil) (fun _ _ _ _ _ _ _ => (ce_var (i := 2))) (by decide) (by decide) (fun _ => rfl) (fun _ _ => rfl)))))
theorem sc_f_call_text : FnScope (locOf .f_call_text) (psOf .f_call_text) (defScope (stOf .f_call_text)) := ⟨rfl, rfl, rfl, by decide +kernel, rfl, by decide +kernel, by decide +kernel⟩
theorem nd_f_call_text : (locOf .f_call_text).Nodup := sc_f_call_text.nd
theorem ok_f_call_text (Z : Fx w K mg base T) {k : Nat} {cs : Fn → Fd} (IH : ∀ f, OkF P w K mg base T Z (4 * k) cs f) : FnOk P w K mg base (L2.CX P w) (4 * k + 3 + 1) (adr K .f_call_text) (Z.fd .f_call_text) (psOf .f_call_text) (spF ⟨K, T, cadK K⟩ (psOf .f_call_text).length (denF (psOf .f_call_text).length (locOf .f_call_text).length (bdOf .f_call_text cs))) := by
  refine fn_bd Z .f_call_text sc_f_call_text fun cdv A outer s ρ0 H E hcd hr => ?_
  have tf := Z.tab_g .f_call_text (by simp)
  have gt : GTab (cxOf (L2.CX P w) P w K mg base (locOf .f_call_text) (nmOf .f_call_text) (defScope (stOf .f_call_text)) (adr K .f_call_text) cdv A outer s H E) T (Z.cT .f_call_text).1 (Z.cT .f_call_text).2 := ⟨tf.tb, hcd.symm.trans tf.code, tf.mem, tf.uniq⟩
  show CSs _ _ _ (b_f_call_text cs)
  unfold b_f_call_text
  exact (cs_cons (cs_set (i := 3) (ce_joinGx (own := [("e", 4)]) (ts := [4]) hr rfl nd_f_call_text (gsc_by (by show gscB (locOf .f_call_text) (defScope (stOf .f_call_text)) _ _ = true; decide +kernel)) gt ce_str (ci_E (ce_var (i := 1))) (fun _ _ _ _ _ _ _ => (cg_name (i := 4) nd_f_call_text)) (fun _ _ _ _ _ _ _ => cts_nil) (fun _ _ _ _ _ _ _ => (ce_call (IH .f_expression) ((room_gen4 hr).mono (by omega)) rfl (Z.mg_ .f_expression) (Z.keep .f_expression) (Z.binds .f_expression) LamX.takes0 (ca_cons (ce_var (i := 4)) ca_nil))) (by decide) (fun _ => rfl)) nd_f_call_text)
  (cs_one (cs_ret (ce_op op_addA p2_add (ce_op op_addA p2_add (ce_op op_addA p2_add (ce_op op_addA p2_add (ce_var (i := 0)) ce_str) (ce_var (i := 3))) (ce_if (ct_tru (ce_var (i := 2))) (ce_op op_addA p2_add ce_str (ce_m1 PySem.F.slot_str_join PySem.F.type_str_join mt_join m_join ce_str (ce_var (i := 2)))) ce_str)) ce_str))))
theorem sc_f_law_stream : FnScope (locOf .f_law_stream) (psOf .f_law_stream) (defScope (stOf .f_law_stream)) := ⟨rfl, rfl, rfl, by decide +kernel, rfl, by decide +kernel, by decide +kernel⟩
theorem nd_f_law_stream : (locOf .f_law_stream).Nodup := sc_f_law_stream.nd
theorem ok_f_law_stream (Z : Fx w K mg base T) {k : Nat} {cs : Fn → Fd} (IH : ∀ f, OkF P w K mg base T Z (4 * k) cs f) : FnOk P w K mg base (L2.CX P w) (4 * k + 3 + 1) (adr K .f_law_stream) (Z.fd .f_law_stream) (psOf .f_law_stream) (spF ⟨K, T, cadK K⟩ (psOf .f_law_stream).length (denF (psOf .f_law_stream).length (locOf .f_law_stream).length (bdOf .f_law_stream cs))) := by
  refine fn_bd Z .f_law_stream sc_f_law_stream fun cdv A outer s ρ0 H E hcd hr => ?_
  show CSs _ _ _ (b_f_law_stream cs)
  unfold b_f_law_stream
  exact (cs_one (cs_ret (ce_lst (ca_cons (ce_callB call_abs pn_abs rfl Z.no_abs boot_abs (ca_cons (ce_call (IH .f_law_cell) (hr.mono (by omega)) rfl (Z.mg_ .f_law_cell) (Z.keep .f_law_cell) (Z.binds .f_law_cell) (takes_of rfl rfl rfl rfl) (ca_cons (ce_var (i := 0)) (ca_cons (ce_var (i := 1)) ca_nil))) ca_nil)) (ca_cons (ce_op op_addA p2_add (ce_op op_mod p2_mod (ce_callB call_abs pn_abs rfl Z.no_abs boot_abs (ca_cons (ce_call (IH .f_law_cell) (hr.mono (by omega)) rfl (Z.mg_ .f_law_cell) (Z.keep .f_law_cell) (Z.binds .f_law_cell) (takes_of rfl rfl rfl rfl) (ca_cons (ce_var (i := 0)) (ca_cons (ce_var (i := 1)) ca_nil))) ca_nil)) ce_int) ce_int) ca_nil)))))
theorem sc_f_held : FnScope (locOf .f_held) (psOf .f_held) (defScope (stOf .f_held)) := ⟨rfl, rfl, rfl, by decide +kernel, rfl, by decide +kernel, by decide +kernel⟩
theorem nd_f_held : (locOf .f_held).Nodup := sc_f_held.nd
theorem ok_f_held (Z : Fx w K mg base T) {k : Nat} {cs : Fn → Fd} (IH : ∀ f, OkF P w K mg base T Z (4 * k) cs f) : FnOk P w K mg base (L2.CX P w) (4 * k + 3 + 1) (adr K .f_held) (Z.fd .f_held) (psOf .f_held) (spF ⟨K, T, cadK K⟩ (psOf .f_held).length (denF (psOf .f_held).length (locOf .f_held).length (bdOf .f_held cs))) := by
  refine fn_bd Z .f_held sc_f_held fun cdv A outer s ρ0 H E hcd hr => ?_
  show CSs _ _ _ (b_f_held cs)
  unfold b_f_held
  exact (cs_cons (cs_set (i := 2) (ce_call (IH .f_condition) (hr.mono (by omega)) rfl (Z.mg_ .f_condition) (Z.keep .f_condition) (Z.binds .f_condition) (takes_of rfl rfl rfl rfl) (ca_cons (ce_var (i := 0)) ca_nil)) nd_f_held)
  (cs_one (cs_ret (ce_if (ct_cmp (op_inB (hu80 hr)) p2_inB (ce_ix (ix_any (hu_of hr)) p2_ix (ce_var (i := 0)) ce_int) (ce_var (i := 1)) rfl) (ce_op op_addA p2_add (ce_op op_addA p2_add ce_str (ce_var (i := 2))) ce_str) (ce_var (i := 2))))))
theorem sc_f_is_condition : FnScope (locOf .f_is_condition) (psOf .f_is_condition) (defScope (stOf .f_is_condition)) := ⟨rfl, rfl, rfl, by decide +kernel, rfl, by decide +kernel, by decide +kernel⟩
theorem nd_f_is_condition : (locOf .f_is_condition).Nodup := sc_f_is_condition.nd
theorem ok_f_is_condition (Z : Fx w K mg base T) {k : Nat} {cs : Fn → Fd} (IH : ∀ f, OkF P w K mg base T Z (4 * k) cs f) : FnOk P w K mg base (L2.CX P w) (4 * k + 3 + 1) (adr K .f_is_condition) (Z.fd .f_is_condition) (psOf .f_is_condition) (spF ⟨K, T, cadK K⟩ (psOf .f_is_condition).length (denF (psOf .f_is_condition).length (locOf .f_is_condition).length (bdOf .f_is_condition cs))) := by
  refine fn_bd Z .f_is_condition sc_f_is_condition fun cdv A outer s ρ0 H E hcd hr => ?_
  show CSs _ _ _ (b_f_is_condition cs)
  unfold b_f_is_condition
  exact (cs_one (cs_ret (ce_chain op_le op_le p2_le p2_le ce_int (ce_call (IH .f_condition_parts) (hr.mono (by omega)) rfl (Z.mg_ .f_condition_parts) (Z.keep .f_condition_parts) (Z.binds .f_condition_parts) (takes_of rfl rfl rfl rfl) (ca_cons (ce_var (i := 0)) (ca_cons (ce_var (i := 1)) ca_nil))) ce_int)))
end
end Sk25
set_option Elab.async false
set_option linter.all false
set_option maxRecDepth 100000
set_option maxHeartbeats 4000000
namespace Sk25
open PySem PySem.Spec PyProof.Rows L2 Sh
section
variable {P : Program} {w : World} {K : PySem.W.Frag} {mg : Str → Option Value} {base : Heap} {T : List (Addr × Str)}
theorem sc_f_law_told : FnScope (locOf .f_law_told) (psOf .f_law_told) (defScope (stOf .f_law_told)) := ⟨rfl, rfl, rfl, by decide +kernel, rfl, by decide +kernel, by decide +kernel⟩
theorem sc_ : ∀ f, FnScope (locOf f) (psOf f) (defScope (stOf f))
  | .f_is_int => sc_f_is_int
  | .f_is_number => sc_f_is_number
  | .f_is_name => sc_f_is_name
  | .f_is_there => sc_f_is_there
  | .f_expression_parts => sc_f_expression_parts
  | .f_condition_parts => sc_f_condition_parts
  | .f_is_expression => sc_f_is_expression
  | .f_is_condition => sc_f_is_condition
  | .f_is_type => sc_f_is_type
  | .f_divisions => sc_f_divisions
  | .f_ends => sc_f_ends
  | .f_statements_in => sc_f_statements_in
  | .f_block_fits => sc_f_block_fits
  | .f_head_of => sc_f_head_of
  | .f_head_fits => sc_f_head_fits
  | .f_call_fits => sc_f_call_fits
  | .f_statement_fits => sc_f_statement_fits
  | .f_names_fit => sc_f_names_fit
  | .f_function_fits => sc_f_function_fits
  | .f_is_whole => sc_f_is_whole
  | .f_whole => sc_f_whole
  | .f_tight => sc_f_tight
  | .f_expression => sc_f_expression
  | .f_held => sc_f_held
  | .f_condition => sc_f_condition
  | .f_type_text => sc_f_type_text
  | .f_call_text => sc_f_call_text
  | .f_statement => sc_f_statement
  | .f_block_rows => sc_f_block_rows
  | .f_head => sc_f_head
  | .f_write => sc_f_write
  | .f_law_cell => sc_f_law_cell
  | .f_law_stream => sc_f_law_stream
  | .f_law_draw => sc_f_law_draw
  | .f_law_read => sc_f_law_read
  | .f_law_told => sc_f_law_told
  | .f_law_f => sc_f_law_f
  | .f_law_chain => sc_f_law_chain
  | .f_law_sized => sc_f_law_sized
  | .f_law => sc_f_law
/-- a def of which nothing is said -/
theorem ok_none (Z : Fx w K mg base T) (k : Nat) (f : Fn) (g : Fd) (hg : ∀ rs h, g rs h = none) : FnOk P w K mg base (L2.CX P w) (k + 1) (adr K f) (Z.fd f) (psOf f) (spF ⟨K, T, cadK K⟩ (psOf f).length g) :=
  (Z.fun_ f).ok (sc_ f) (fun vs H Q E h => h.1) fun cdv A outer s H vs Q E hr hsp => by
    obtain ⟨_, ρ, h, Ha, rs, _, _, _, e⟩ := hsp
    rw [hg] at e
    exact e.elim
theorem ok_step (Z : Fx w K mg base T) {k : Nat} {cs : Fn → Fd} (IH : ∀ f, OkF P w K mg base T Z (4 * k) cs f) : ∀ f : Fn, FnOk P w K mg base (L2.CX P w) (4 * k + 3 + 1) (adr K f) (Z.fd f) (psOf f) (spF ⟨K, T, cadK K⟩ (psOf f).length (denF (psOf f).length (locOf f).length (bdOf f cs)))
  | .f_is_int => ok_f_is_int Z IH
  | .f_is_number => ok_f_is_number Z IH
  | .f_is_name => ok_f_is_name Z IH
  | .f_is_there => ok_f_is_there Z IH
  | .f_expression_parts => ok_f_expression_parts Z IH
  | .f_condition_parts => ok_f_condition_parts Z IH
  | .f_is_expression => ok_f_is_expression Z IH
  | .f_is_condition => ok_f_is_condition Z IH
  | .f_is_type => ok_f_is_type Z IH
  | .f_divisions => ok_f_divisions Z IH
  | .f_ends => ok_f_ends Z IH
  | .f_statements_in => ok_f_statements_in Z IH
  | .f_block_fits => ok_f_block_fits Z IH
  | .f_head_of => ok_f_head_of Z IH
  | .f_head_fits => ok_f_head_fits Z IH
  | .f_call_fits => ok_f_call_fits Z IH
  | .f_statement_fits => ok_f_statement_fits Z IH
  | .f_names_fit => ok_f_names_fit Z IH
  | .f_function_fits => ok_f_function_fits Z IH
  | .f_is_whole => ok_f_is_whole Z IH
  | .f_whole => ok_f_whole Z IH
  | .f_tight => ok_f_tight Z IH
  | .f_expression => ok_f_expression Z IH
  | .f_held => ok_f_held Z IH
  | .f_condition => ok_f_condition Z IH
  | .f_type_text => ok_f_type_text Z IH
  | .f_call_text => ok_f_call_text Z IH
  | .f_statement => ok_f_statement Z IH
  | .f_block_rows => ok_f_block_rows Z IH
  | .f_head => ok_f_head Z IH
  | .f_write => ok_f_write Z IH
  | .f_law_cell => ok_f_law_cell Z IH
  | .f_law_stream => ok_f_law_stream Z IH
  | .f_law_draw => ok_f_law_draw Z IH
  | .f_law_read => ok_f_law_read Z IH
  | .f_law_told => ok_none Z _ .f_law_told _ fun rs h => by show (if _ then fnRes none else none) = _; split <;> rfl
  | .f_law_f => ok_f_law_f Z IH
  | .f_law_chain => ok_f_law_chain Z IH
  | .f_law_sized => ok_f_law_sized Z IH
  | .f_law => ok_f_law Z IH
theorem ok_all (Z : Fx w K mg base T) : ∀ (n : Nat) (f : Fn), OkF P w K mg base T Z (4 * (n + 1)) (run n) f
  | 0, f => ok_none Z _ f _ fun _ _ => rfl
  | n + 1, f => ok_step Z (ok_all Z n) f
end
end Sk25
set_option Elab.async false
set_option linter.all false
set_option maxRecDepth 100000
set_option maxHeartbeats 0
namespace Sk25
open PySem PySem.Spec PyProof.Rows L2 Sh
/-! ### the head -/
def fns : List Fn := [.f_is_int, .f_is_number, .f_is_name, .f_is_there, .f_expression_parts, .f_condition_parts, .f_is_expression, .f_is_condition, .f_is_type, .f_divisions, .f_ends, .f_statements_in, .f_block_fits, .f_head_of, .f_head_fits, .f_call_fits, .f_statement_fits, .f_names_fit, .f_function_fits, .f_is_whole, .f_whole, .f_tight, .f_expression, .f_held, .f_condition, .f_type_text, .f_call_text, .f_statement, .f_block_rows, .f_head, .f_write, .f_law_cell, .f_law_stream, .f_law_draw, .f_law_read, .f_law_told, .f_law_f, .f_law_chain, .f_law_sized, .f_law]
def dOf (f : Fn) : He.DefD := ⟨(nmOf f, none), nmOf f, nmOf f, defArgs (stOf f), defBody (stOf f), defScope (stOf f), [], []⟩
def fnL : List He.DefD := fns.map dOf
def faL : List He.Fa := [.glo "is_int", .glo "is_number", .glo "is_name", .glo "is_there", .glo "expression_parts", .glo "condition_parts", .glo "is_expression", .glo "is_condition", .glo "is_type", .glo "divisions", .glo "ends", .glo "statements_in", .glo "block_fits", .glo "head_of", .glo "head_fits", .glo "call_fits", .glo "statement_fits", .glo "names_fit", .glo "function_fits", .glo "is_whole", .glo "whole", .glo "tight", .glo "expression", .glo "held", .glo "condition", .glo "type_text", .glo "call_text", .glo "statement", .glo "block_rows", .glo "head", .glo "write", .glo "_law_cell", .glo "_law_stream", .glo "_law_draw", .glo "_law_read", .glo "_law_told", .glo "_law_f", .glo "_law_chain", .glo "_law_sized", .glo "law", .glo "TypeTroubles", .glo "BadProgram", .glo "BadQuestion", .glo "BadRun", .glo "NotThere", .glo "SIZES", .free "len", .free "abs", .free "isinstance", .free "int", .free "str", .free "type", .free "tuple", .free "list", .free "range", .free "any", .free "all", .free "reversed", .free "enumerate", .free "bool", .free "zip", .free "set", .free "sum", .free "dict", .free "max", .free "min", .free "sorted", .exc "BadProgram", .exm "BadProgram" "TypeTroubles" true]
def tfL : List He.Defn := [("is_name", none), ("divisions", none), ("head_of", none), ("call_fits", none), ("names_fit", none), ("function_fits", none), ("is_whole", none), ("call_text", none), ("head", none), ("write", none), ("law", none)]
def tsL : List He.Tab := [(fun K => cadK K "SIZES", t_SIZES.map (·.1))]
def excB (K : PySem.W.Frag) (x : Str) : Bool :=
  eqOo (PySem.W.findIn K (.ref (cadK K x)) "__getattribute__") (some (some (.builtin "BaseException.__getattribute__"))) && eqOo (PySem.W.findIn K (.ref (cadK K x)) "__getattr__") (some none) && decide (PySem.W.subIn K (.ref (cadK K x)) (.type "BaseException") = some true) && PySem.W.hasDictIn K (cadK K x)
    && eqOo (PySem.W.findIn K (.ref (cadK K x)) "__class__") (some (some (.builtin "object.__class__"))) && eqOo (PySem.W.specialIn K (.builtin "object.__class__") "__get__") (some (some (.builtin "getset_descriptor.__get__"))) && decide (PySem.W.takesIn K (.builtin "object.__class__") = some true) && decide (PySem.W.mroIn K (cadK K x) (.type "object") = some true)
where eqOo (a b : Option (Option Value)) : Bool := decide (a = b)
def kitB (K : PySem.W.Frag) (x y : Str) (b : Bool) : Bool := decide (PySem.W.kitOne K (.ref (cadK K x)) (.ref (cadK K y)) = some b)
def exK (K : PySem.W.Frag) : Bool := (excB K "BadProgram" && (kitB K "BadProgram" "BadProgram" true && (kitB K "BadProgram" "BadQuestion" false && (kitB K "BadProgram" "BadRun" false && (kitB K "BadProgram" "NotThere" false && (kcB K "WORDS" k_WORDS && (kcB K "SIGNS" k_SIGNS && (kcB K "MOST" k_MOST && (ktB K (cadK K "SIZES") t_SIZES && decide ((tfL.map fun p => (He.cT K p).2).Nodup))))))))))
abbrev rowR : PySem.W.OpenRow := PySem.W.OpenLaw.row PySem.Challenge.rw_truetotype_k25_bounds
abbrev hk : PySem.W.Hook := He.hookX 4 faL fnL tsL tfL exK
def ob (s : PySem.W.SharedT) : He.AlX := He.obsX 4 faL fnL tsL tfL exK (HandSHeadRun.getT s)
theorem ob_eq (s : PySem.W.SharedT) : ob s = hk.obs s.abs := He.obsX_eq (HandSHeadRun.getT_eq s)
def looseL : List Str := (["TypeTroubles", "BadProgram", "BadQuestion", "BadRun", "NotThere", "WORDS", "SIGNS", "MOST", "SIZES", "is_int", "is_number", "is_name"] : List Str) ++ (["is_there", "expression_parts", "condition_parts", "is_expression", "is_condition", "is_type", "divisions", "ends", "statements_in", "block_fits", "head_of", "head_fits"] : List Str) ++ (["call_fits", "statement_fits", "names_fit", "function_fits", "is_whole", "whole", "tight", "expression", "held", "condition", "type_text", "call_text"] : List Str) ++ (["statement", "block_rows", "head", "write", "_law_cell", "_law_stream", "_law_draw", "_law_read", "_law_told", "_law_f", "_law_chain", "_law_sized"] : List Str)
theorem run_eq (w : World) : HandSHeadRun.RunEq rowR (PySem.W.view rowR.prog [ixOf .f_law]) hk ob 4000 looseL w := by
  have h : ∀ (b : Bool) (w : World), HandSHeadRun.RunEq rowR (PySem.W.view rowR.prog [ixOf .f_law]) hk ob 4000 looseL (w.withFollow "special-get-raises" b) := fun b w => by
    cases b
    · intro os
      kernel_rfl
    · intro os
      kernel_rfl
  have z := h (w.params.followText "special-get-raises") w
  rwa [World.withFollow_self] at z
end Sk25
set_option Elab.async false
set_option linter.all false
set_option maxRecDepth 100000
set_option maxHeartbeats 4000000
namespace Sk25
open PySem PySem.Spec PyProof.Rows L2 Sh
theorem dvs_ints {K : PySem.W.Frag} {ρ : List Addr} {H : Hp} : ∀ ns : List Int, DVs K ρ H (ns.map V.int) (ns.map D.int)
  | [] => .nil
  | n :: ns => .cons (.int n) (dvs_ints ns)
/-- the scripts that the law is asked of -/
def Fit (ns : List Int) : Prop := ns.length ≤ 63 ∧ ∀ z ∈ ns, Builtin.Int.intBits z ≤ 1048576
/-- the law's reading says True -/
def Good (N : Nat) : Prop := ∀ ns : List Int, Fit ns → ∀ c, c = Cn.lst (ns.map D.int) ∨ c = Cn.fz (ns.map D.int) → ∃ h', run N .f_law [R.bor c] [] = some (.ok (.d (.bl true)) h')
theorem entry {p : Pm} {H : Hp} {a : Addr} {ns : List Int} (hS : SqL p.K H a (ns.map V.int)) : ∃ c, (c = Cn.lst (ns.map D.int) ∨ c = Cn.fz (ns.map D.int)) ∧ RV p [] H H (.ref a) (.bor c) := by
  rcases hS with (h | ⟨o, h⟩) | h
  · exact ⟨_, .inl rfl, a, rfl, _, dvs_ints ns, h, by simp, trivial⟩
  · exact ⟨_, .inr rfl, a, rfl, _, dvs_ints ns, .inr ⟨⟨o, h⟩, by simp, trivial⟩⟩
  · exact ⟨_, .inr rfl, a, rfl, _, dvs_ints ns, .inl h⟩
/-- the tables, the names of what they hold -/
def tq : List (He.Defn × Str) := [(("is_name", none), qOf .f_is_name ++ "<genexpr>"), (("divisions", none), qOf .f_divisions ++ "<genexpr>"), (("head_of", none), qOf .f_head_of ++ "<genexpr>"), (("call_fits", none), qOf .f_call_fits ++ "<genexpr>"), (("names_fit", none), qOf .f_names_fit ++ "<genexpr>"), (("function_fits", none), qOf .f_function_fits ++ "<genexpr>"), (("is_whole", none), qOf .f_is_whole ++ "<genexpr>"), (("call_text", none), qOf .f_call_text ++ "<genexpr>"), (("head", none), qOf .f_head ++ "<genexpr>"), (("write", none), qOf .f_write ++ "<genexpr>"), (("law", none), qOf .f_law ++ "<lambda>")]
def TL (K : PySem.W.Frag) : List (Addr × Str) := tq.map fun p => ((He.cT K p.1).2, p.2)
theorem nodup_uniq {α β : Type} : ∀ {l : List (α × β)}, (l.map (·.1)).Nodup → ∀ {a : α} {b : β}, (a, b) ∈ l → ∀ p ∈ l, p.1 = a → p.2 = b
  | [], _, _, _, h, _, _, _ => by cases h
  | (x, y) :: l, nd, a, b, h, p, hp, e => by
    rw [List.map_cons, List.nodup_cons] at nd
    rcases List.mem_cons.mp h with h1 | h1
    · cases h1
      rcases List.mem_cons.mp hp with h2 | h2
      · rw [h2]
      · exact absurd (show x ∈ l.map (·.1) from e ▸ List.mem_map_of_mem h2) nd.1
    · rcases List.mem_cons.mp hp with h2 | h2
      · subst h2
        exact absurd (show x ∈ l.map (·.1) from by rw [show x = a from e]; exact List.mem_map_of_mem (f := Prod.fst) h1) nd.1
      · exact nodup_uniq nd.2 h1 p h2 e
theorem mem_fns : ∀ f : Fn, f ∈ fns := fun f => by cases f <;> decide
theorem tab_of {K : PySem.W.Frag} {base : Heap} {mg : Str → Option Value} {f : Fn} {fd : FuncData} {s : Str} (F : FunD K (nmOf f) (nmOf f) (defArgs (stOf f)) (defBody (stOf f)) (defScope (stOf f)) [] [] (adr K f) fd) (hm : ((nmOf f, none), s) ∈ tq)
    (nd : ((TL K).map (·.1)).Nodup) (tb : LamX.TabB base mg (He.cT K (nmOf f, none)).1 (He.cT K (nmOf f, none)).2) : TabF K base mg (TL K) fd s (He.cT K (nmOf f, none)).1 (He.cT K (nmOf f, none)).2 := by
  obtain ⟨oc, od, dV, kV, doc, pm, an, cdv, ct, osl, e, lk, hcd, _⟩ := F.ex
  obtain ⟨cc, ec⟩ := He.codeIn_ref hcd
  have e2 : fd.code = .ref cc := by rw [e]; exact ec
  have e3 : He.codeOf K (nmOf f, none) = cc := He.codeOf_eq (p := (nmOf f, none)) lk e2
  have hm2 : ((He.cT K (nmOf f, none)).2, s) ∈ TL K := List.mem_map_of_mem (f := fun p : He.Defn × Str => ((He.cT K p.1).2, p.2)) hm
  exact ⟨tb, by rw [e2, ← e3] <;> rfl, hm2, nodup_uniq nd hm2⟩
section
variable {w : World} {K : PySem.W.Frag} {h : Heap} {mg : Str → Option Value}
theorem excC_of {x : Str} (e : excB K x = true) : ExcC K (cadK K x) := by
  unfold excB excB.eqOo at e
  simp only [Bool.and_eq_true, decide_eq_true_eq] at e
  obtain ⟨⟨⟨⟨⟨⟨⟨b1, b2⟩, b3⟩, b4⟩, b5⟩, b6⟩, b7⟩, b8⟩ := e
  exact ⟨b1, b2, b3, b4, b5, b6, b7, b8⟩
theorem exK_ok (e : exK K = true) : ExcC K (cadK K "BadProgram") ∧ PySem.W.kitOne K (.ref (cadK K "BadProgram")) (.ref (cadK K "BadProgram")) = some true ∧ PySem.W.kitOne K (.ref (cadK K "BadProgram")) (.ref (cadK K "BadQuestion")) = some false ∧ PySem.W.kitOne K (.ref (cadK K "BadProgram")) (.ref (cadK K "BadRun")) = some false ∧ PySem.W.kitOne K (.ref (cadK K "BadProgram")) (.ref (cadK K "NotThere")) = some false ∧ kcB K "WORDS" k_WORDS = true ∧ kcB K "SIGNS" k_SIGNS = true ∧ kcB K "MOST" k_MOST = true ∧ ktB K (cadK K "SIZES") t_SIZES = true ∧ ((tfL.map fun p => (He.cT K p).2).Nodup) := by
  unfold exK at e
  obtain ⟨a0, e⟩ := ba2 e
  obtain ⟨a1, e⟩ := ba2 e
  obtain ⟨a2, e⟩ := ba2 e
  obtain ⟨a3, e⟩ := ba2 e
  obtain ⟨a4, e⟩ := ba2 e
  obtain ⟨a5, e⟩ := ba2 e
  obtain ⟨a6, e⟩ := ba2 e
  obtain ⟨a7, e⟩ := ba2 e
  obtain ⟨a8, e⟩ := ba2 e
  exact ⟨excC_of a0, of_decide_eq_true a1, of_decide_eq_true a2, of_decide_eq_true a3, of_decide_eq_true a4, a5, a6, a7, a8, of_decide_eq_true e⟩
theorem fx_of (X : K.In h) (G : h.Ns mainGlobals mg) (c : He.SaysX faL fnL tsL tfL exK w h K) :
    ∃ fd : Fn → FuncData, (∀ f, FunD K (nmOf f) (nmOf f) (defArgs (stOf f)) (defBody (stOf f)) (defScope (stOf f)) [] [] (adr K f) (fd f)) ∧
      ∀ base : Heap, (∀ p ∈ tfL.map (He.cT K), LamX.TabB base mg p.1 p.2) → ∃ Z : Fx w K mg base (TL K), Z.fd = fd := by
  have hfd : ∀ f : Fn, ∃ fd : FuncData, FunD K (nmOf f) (nmOf f) (defArgs (stOf f)) (defBody (stOf f)) (defScope (stOf f)) [] [] (adr K f) fd := fun f => c.t.d.defs (d := dOf f) (List.mem_map_of_mem (mem_fns f))
  obtain ⟨fd, hf⟩ := Classical.skolem.mp hfd
  obtain ⟨eB_BadProgram, k_BadProgram_BadProgram, k_BadProgram_BadQuestion, k_BadProgram_BadRun, k_BadProgram_NotThere, hc_WORDS, hc_SIGNS, hc_MOST, ht_SIZES, nd⟩ := exK_ok c.more
  obtain ⟨x1_BadProgram, x2_BadProgram, x3_BadProgram, x4_BadProgram⟩ := He.exc_ok (c.t.d.fact 67 (f := .exc "BadProgram") rfl)
  have nd2 : ((TL K).map (·.1)).Nodup := nd
  have tdic : ∀ (i : Nat) (t : He.Tab), tsL[i]? = some t → He.dicW K (t.1 K) = some (He.keysIn w.params t.2) := fun i t ht => by
    have e : tsL.map (fun t => He.dicW K (t.1 K)) = tsL.map fun t => some (He.keysIn w.params t.2) := congrArg (fun z : He.AlT => z.2) c.t
    have e2 : (tsL.map fun t => He.dicW K (t.1 K))[i]? = (tsL.map fun t => some (He.keysIn w.params t.2))[i]? := by rw [e]
    rw [List.getElem?_map, List.getElem?_map, ht] at e2
    exact Option.some.inj e2
  refine ⟨fd, hf, fun base ht => ⟨{
    fd := fd, fun_ := hf, mg_ := ?_, binds := ?_, keep := fun f => (hf f).kp,
    no_len := He.free_ok X G (c.t.d.fact 46 (f := .free "len") rfl),
    no_abs := He.free_ok X G (c.t.d.fact 47 (f := .free "abs") rfl),
    no_isinstance := He.free_ok X G (c.t.d.fact 48 (f := .free "isinstance") rfl),
    no_int := He.free_ok X G (c.t.d.fact 49 (f := .free "int") rfl),
    no_str := He.free_ok X G (c.t.d.fact 50 (f := .free "str") rfl),
    no_type := He.free_ok X G (c.t.d.fact 51 (f := .free "type") rfl),
    no_tuple := He.free_ok X G (c.t.d.fact 52 (f := .free "tuple") rfl),
    no_list := He.free_ok X G (c.t.d.fact 53 (f := .free "list") rfl),
    no_range := He.free_ok X G (c.t.d.fact 54 (f := .free "range") rfl),
    no_any := He.free_ok X G (c.t.d.fact 55 (f := .free "any") rfl),
    no_all := He.free_ok X G (c.t.d.fact 56 (f := .free "all") rfl),
    no_reversed := He.free_ok X G (c.t.d.fact 57 (f := .free "reversed") rfl),
    no_enumerate := He.free_ok X G (c.t.d.fact 58 (f := .free "enumerate") rfl),
    no_bool := He.free_ok X G (c.t.d.fact 59 (f := .free "bool") rfl),
    no_zip := He.free_ok X G (c.t.d.fact 60 (f := .free "zip") rfl),
    no_set := He.free_ok X G (c.t.d.fact 61 (f := .free "set") rfl),
    no_sum := He.free_ok X G (c.t.d.fact 62 (f := .free "sum") rfl),
    no_dict := He.free_ok X G (c.t.d.fact 63 (f := .free "dict") rfl),
    no_max := He.free_ok X G (c.t.d.fact 64 (f := .free "max") rfl),
    no_min := He.free_ok X G (c.t.d.fact 65 (f := .free "min") rfl),
    no_sorted := He.free_ok X G (c.t.d.fact 66 (f := .free "sorted") rfl),
    c_WORDS := kc_ok X G hc_WORDS,
    c_SIGNS := kc_ok X G hc_SIGNS,
    c_MOST := kc_ok X G hc_MOST,
    g_SIZES := He.glo_ok X G (c.t.d.fact 45 (f := .glo "SIZES") rfl), t_SIZES := kt_ok (tdic 0 _ rfl) ht_SIZES,
    x_BadProgram := ⟨⟨He.veBase, "ValueError", "ValueError.__new__", "ValueError.__init__", PySem.F.excBase_ValueError, x1_BadProgram⟩, He.glo_ok X G (c.t.d.fact 41 (f := .glo "BadProgram") rfl), x2_BadProgram, x3_BadProgram, x4_BadProgram⟩,
    g_Tr := He.glo_ok X G (c.t.d.fact 40 (f := .glo "TypeTroubles") rfl),
    g_BP := He.glo_ok X G (c.t.d.fact 41 (f := .glo "BadProgram") rfl),
    g_BQ := He.glo_ok X G (c.t.d.fact 42 (f := .glo "BadQuestion") rfl),
    g_BR := He.glo_ok X G (c.t.d.fact 43 (f := .glo "BadRun") rfl),
    g_NT := He.glo_ok X G (c.t.d.fact 44 (f := .glo "NotThere") rfl),
    told := ?_, cT := fun f => He.cT K (nmOf f, none), tab_g := ?_, tab_l := ?_ }, rfl⟩⟩
  · intro f
    cases f
    · exact He.glo_ok X G (c.t.d.fact 0 (f := .glo "is_int") rfl)
    · exact He.glo_ok X G (c.t.d.fact 1 (f := .glo "is_number") rfl)
    · exact He.glo_ok X G (c.t.d.fact 2 (f := .glo "is_name") rfl)
    · exact He.glo_ok X G (c.t.d.fact 3 (f := .glo "is_there") rfl)
    · exact He.glo_ok X G (c.t.d.fact 4 (f := .glo "expression_parts") rfl)
    · exact He.glo_ok X G (c.t.d.fact 5 (f := .glo "condition_parts") rfl)
    · exact He.glo_ok X G (c.t.d.fact 6 (f := .glo "is_expression") rfl)
    · exact He.glo_ok X G (c.t.d.fact 7 (f := .glo "is_condition") rfl)
    · exact He.glo_ok X G (c.t.d.fact 8 (f := .glo "is_type") rfl)
    · exact He.glo_ok X G (c.t.d.fact 9 (f := .glo "divisions") rfl)
    · exact He.glo_ok X G (c.t.d.fact 10 (f := .glo "ends") rfl)
    · exact He.glo_ok X G (c.t.d.fact 11 (f := .glo "statements_in") rfl)
    · exact He.glo_ok X G (c.t.d.fact 12 (f := .glo "block_fits") rfl)
    · exact He.glo_ok X G (c.t.d.fact 13 (f := .glo "head_of") rfl)
    · exact He.glo_ok X G (c.t.d.fact 14 (f := .glo "head_fits") rfl)
    · exact He.glo_ok X G (c.t.d.fact 15 (f := .glo "call_fits") rfl)
    · exact He.glo_ok X G (c.t.d.fact 16 (f := .glo "statement_fits") rfl)
    · exact He.glo_ok X G (c.t.d.fact 17 (f := .glo "names_fit") rfl)
    · exact He.glo_ok X G (c.t.d.fact 18 (f := .glo "function_fits") rfl)
    · exact He.glo_ok X G (c.t.d.fact 19 (f := .glo "is_whole") rfl)
    · exact He.glo_ok X G (c.t.d.fact 20 (f := .glo "whole") rfl)
    · exact He.glo_ok X G (c.t.d.fact 21 (f := .glo "tight") rfl)
    · exact He.glo_ok X G (c.t.d.fact 22 (f := .glo "expression") rfl)
    · exact He.glo_ok X G (c.t.d.fact 23 (f := .glo "held") rfl)
    · exact He.glo_ok X G (c.t.d.fact 24 (f := .glo "condition") rfl)
    · exact He.glo_ok X G (c.t.d.fact 25 (f := .glo "type_text") rfl)
    · exact He.glo_ok X G (c.t.d.fact 26 (f := .glo "call_text") rfl)
    · exact He.glo_ok X G (c.t.d.fact 27 (f := .glo "statement") rfl)
    · exact He.glo_ok X G (c.t.d.fact 28 (f := .glo "block_rows") rfl)
    · exact He.glo_ok X G (c.t.d.fact 29 (f := .glo "head") rfl)
    · exact He.glo_ok X G (c.t.d.fact 30 (f := .glo "write") rfl)
    · exact He.glo_ok X G (c.t.d.fact 31 (f := .glo "_law_cell") rfl)
    · exact He.glo_ok X G (c.t.d.fact 32 (f := .glo "_law_stream") rfl)
    · exact He.glo_ok X G (c.t.d.fact 33 (f := .glo "_law_draw") rfl)
    · exact He.glo_ok X G (c.t.d.fact 34 (f := .glo "_law_read") rfl)
    · exact He.glo_ok X G (c.t.d.fact 35 (f := .glo "_law_told") rfl)
    · exact He.glo_ok X G (c.t.d.fact 36 (f := .glo "_law_f") rfl)
    · exact He.glo_ok X G (c.t.d.fact 37 (f := .glo "_law_chain") rfl)
    · exact He.glo_ok X G (c.t.d.fact 38 (f := .glo "_law_sized") rfl)
    · exact He.glo_ok X G (c.t.d.fact 39 (f := .glo "law") rfl)
  · intro f
    cases f
    · exact (hf .f_is_int).bindsN fun _ _ _ _ _ _ us hl => match us, hl with | [_], _ => rfl
    · exact (hf .f_is_number).bindsN fun _ _ _ _ _ _ us hl => match us, hl with | [_], _ => rfl
    · exact (hf .f_is_name).bindsN fun _ _ _ _ _ _ us hl => match us, hl with | [_], _ => rfl
    · exact (hf .f_is_there).bindsN fun _ _ _ _ _ _ us hl => match us, hl with | [_, _], _ => rfl
    · exact (hf .f_expression_parts).bindsN fun _ _ _ _ _ _ us hl => match us, hl with | [_, _], _ => rfl
    · exact (hf .f_condition_parts).bindsN fun _ _ _ _ _ _ us hl => match us, hl with | [_, _], _ => rfl
    · exact (hf .f_is_expression).bindsN fun _ _ _ _ _ _ us hl => match us, hl with | [_, _], _ => rfl
    · exact (hf .f_is_condition).bindsN fun _ _ _ _ _ _ us hl => match us, hl with | [_, _], _ => rfl
    · exact (hf .f_is_type).bindsN fun _ _ _ _ _ _ us hl => match us, hl with | [_, _], _ => rfl
    · exact (hf .f_divisions).bindsN fun _ _ _ _ _ _ us hl => match us, hl with | [_], _ => rfl
    · exact (hf .f_ends).bindsN fun _ _ _ _ _ _ us hl => match us, hl with | [_], _ => rfl
    · exact (hf .f_statements_in).bindsN fun _ _ _ _ _ _ us hl => match us, hl with | [_], _ => rfl
    · exact (hf .f_block_fits).bindsN fun _ _ _ _ _ _ us hl => match us, hl with | [_, _], _ => rfl
    · exact (hf .f_head_of).bindsN fun _ _ _ _ _ _ us hl => match us, hl with | [_], _ => rfl
    · exact (hf .f_head_fits).bindsN fun _ _ _ _ _ _ us hl => match us, hl with | [_], _ => rfl
    · exact (hf .f_call_fits).bindsN fun _ _ _ _ _ _ us hl => match us, hl with | [_, _, _, _], _ => rfl
    · exact (hf .f_statement_fits).bindsN fun _ _ _ _ _ _ us hl => match us, hl with | [_, _, _, _, _], _ => rfl
    · exact (hf .f_names_fit).bindsN fun _ _ _ _ _ _ us hl => match us, hl with | [_, _, _, _, _], _ => rfl
    · exact (hf .f_function_fits).bindsN fun _ _ _ _ _ _ us hl => match us, hl with | [_, _], _ => rfl
    · exact (hf .f_is_whole).bindsN fun _ _ _ _ _ _ us hl => match us, hl with | [_], _ => rfl
    · exact (hf .f_whole).bindsN fun _ _ _ _ _ _ us hl => match us, hl with | [_], _ => rfl
    · exact (hf .f_tight).bindsN fun _ _ _ _ _ _ us hl => match us, hl with | [_], _ => rfl
    · exact (hf .f_expression).bindsN fun _ _ _ _ _ _ us hl => match us, hl with | [_], _ => rfl
    · exact (hf .f_held).bindsN fun _ _ _ _ _ _ us hl => match us, hl with | [_, _], _ => rfl
    · exact (hf .f_condition).bindsN fun _ _ _ _ _ _ us hl => match us, hl with | [_], _ => rfl
    · exact (hf .f_type_text).bindsN fun _ _ _ _ _ _ us hl => match us, hl with | [_], _ => rfl
    · exact (hf .f_call_text).bindsN fun _ _ _ _ _ _ us hl => match us, hl with | [_, _, _], _ => rfl
    · exact (hf .f_statement).bindsN fun _ _ _ _ _ _ us hl => match us, hl with | [_, _], _ => rfl
    · exact (hf .f_block_rows).bindsN fun _ _ _ _ _ _ us hl => match us, hl with | [_, _], _ => rfl
    · exact (hf .f_head).bindsN fun _ _ _ _ _ _ us hl => match us, hl with | [_], _ => rfl
    · exact (hf .f_write).bindsN fun _ _ _ _ _ _ us hl => match us, hl with | [_], _ => rfl
    · exact (hf .f_law_cell).bindsN fun _ _ _ _ _ _ us hl => match us, hl with | [_, _], _ => rfl
    · exact (hf .f_law_stream).bindsN fun _ _ _ _ _ _ us hl => match us, hl with | [_, _], _ => rfl
    · exact (hf .f_law_draw).bindsN fun _ _ _ _ _ _ us hl => match us, hl with | [_, _], _ => rfl
    · exact (hf .f_law_read).bindsN fun _ _ _ _ _ _ us hl => match us, hl with | [_], _ => rfl
    · exact (hf .f_law_told).bindsN fun _ _ _ _ _ _ us hl => match us, hl with | [_], _ => rfl
    · exact (hf .f_law_f).bindsN fun _ _ _ _ _ _ us hl => match us, hl with | [_, _, _], _ => rfl
    · exact (hf .f_law_chain).bindsN fun _ _ _ _ _ _ us hl => match us, hl with | [_, _], _ => rfl
    · exact (hf .f_law_sized).bindsN fun _ _ _ _ _ _ us hl => match us, hl with | [_, _], _ => rfl
    · exact (hf .f_law).bindsN fun _ _ _ _ _ _ us hl => match us, hl with | [_], _ => rfl
  · intro cn nm e
    unfold nmF at e
    split at e
    · rename_i e2
      cases e
      subst e2
      exact ⟨eB_BadProgram, He.exm_ok (c.t.d.fact 68 (f := .exm "BadProgram" "TypeTroubles" true) rfl), _, _, _, _, k_BadProgram_BadProgram, k_BadProgram_BadQuestion, k_BadProgram_BadRun, k_BadProgram_NotThere, rfl⟩
    · cases e
  · intro f hm
    simp only [List.mem_cons, List.not_mem_nil, or_false] at hm
    rcases hm with rfl | rfl | rfl | rfl | rfl | rfl | rfl | rfl | rfl | rfl
    · exact tab_of (hf .f_is_name) (List.mem_of_getElem? (i := 0) rfl) nd2 (ht _ (List.mem_of_getElem? (i := 0) rfl))
    · exact tab_of (hf .f_divisions) (List.mem_of_getElem? (i := 1) rfl) nd2 (ht _ (List.mem_of_getElem? (i := 1) rfl))
    · exact tab_of (hf .f_head_of) (List.mem_of_getElem? (i := 2) rfl) nd2 (ht _ (List.mem_of_getElem? (i := 2) rfl))
    · exact tab_of (hf .f_call_fits) (List.mem_of_getElem? (i := 3) rfl) nd2 (ht _ (List.mem_of_getElem? (i := 3) rfl))
    · exact tab_of (hf .f_names_fit) (List.mem_of_getElem? (i := 4) rfl) nd2 (ht _ (List.mem_of_getElem? (i := 4) rfl))
    · exact tab_of (hf .f_function_fits) (List.mem_of_getElem? (i := 5) rfl) nd2 (ht _ (List.mem_of_getElem? (i := 5) rfl))
    · exact tab_of (hf .f_is_whole) (List.mem_of_getElem? (i := 6) rfl) nd2 (ht _ (List.mem_of_getElem? (i := 6) rfl))
    · exact tab_of (hf .f_call_text) (List.mem_of_getElem? (i := 7) rfl) nd2 (ht _ (List.mem_of_getElem? (i := 7) rfl))
    · exact tab_of (hf .f_head) (List.mem_of_getElem? (i := 8) rfl) nd2 (ht _ (List.mem_of_getElem? (i := 8) rfl))
    · exact tab_of (hf .f_write) (List.mem_of_getElem? (i := 9) rfl) nd2 (ht _ (List.mem_of_getElem? (i := 9) rfl))
  · exact tab_of (hf .f_law) (List.mem_of_getElem? (i := 10) rfl) nd2 (ht _ (List.mem_of_getElem? (i := 10) rfl))
/-- the law's promise at the head -/
theorem law_at {N : Nat} (hgood : Good N) (X : K.In h) (G : h.Ns mainGlobals mg) (c : He.SaysX faL fnL tsL tfL exK w h K) {f : Addr} (hfa : mg ("law" : Str) = some (.ref f)) :
    LamX.LawAtS PySem.Challenge.rw_truetotype_k25_bounds w K (L2.CX (PySem.Challenge.rw_truetotype_k25_bounds).prog w) (4 * (N + 1)) 63 "script" mg f h := by
  obtain ⟨fd, hf, hZ⟩ := fx_of X G c
  have eg := hfa.symm.trans (He.glo_ok X G (c.t.d.fact 39 (f := .glo "law") rfl))
  cases eg
  refine ⟨fd .f_law, tfL.map (He.cT K), spF ⟨K, TL K, cadK K⟩ 1 (run N .f_law), ?_, ?_, ?_, ?_, ?_, ?_⟩
  · intro p hp
    obtain ⟨q, hq, rfl⟩ := List.mem_map.mp hp
    exact c.empty q hq
  · intro p hp
    obtain ⟨q, hq, rfl⟩ := List.mem_map.mp hp
    exact c.out q hq
  · intro p hp
    obtain ⟨q, hq, rfl⟩ := List.mem_map.mp hp
    exact PySem.W.codeHd_of_K X (c.hd q hq)
  · intro s u
    exact FunD.bindsA (ps := ["script"]) (hf .f_law) (fun _ _ _ _ _ _ us hl => match us, hl with | [_], _ => rfl) s [u] rfl
  · intro H a ns hl hb hT hS
    obtain ⟨cn, hcn, hr⟩ := entry (p := ⟨K, TL K, cadK K⟩) hS
    obtain ⟨h', e⟩ := hgood ns ⟨hl, hb⟩ cn hcn
    have tb : LamX.Tabs (TL K) H := fun p hp => by
      obtain ⟨q, hq, rfl⟩ := List.mem_map.mp hp
      exact .nil (hT (He.cT K q.1) (List.mem_map.mpr ⟨q.1, (show q.1 ∈ tfL from by
        have : q.1 ∈ tq.map (·.1) := List.mem_map_of_mem hq
        exact this), rfl⟩))
    refine ⟨rfl, [], [], H, [R.bor cn], ⟨rfl, List.nodup_nil, fun j a o e => by simp at e⟩, tb, .cons hr .nil, ?_⟩
    rw [e]
    intro ρ' H' v _ rv
    cases rv
    rfl
  · intro base hb hN hT
    obtain ⟨Z, eZ⟩ := hZ base hT
    have := ok_all (P := (PySem.Challenge.rw_truetotype_k25_bounds).prog) (w := w) Z N .f_law
    rw [← eZ]
    exact this
end
end Sk25
open PySem PySem.W PySem.Calls PyProof.Rows
theorem Sk25.holds (hgood : Sk25.Good 28) : PySem.Challenge.rw_truetotype_k25_bounds.Holds := by
  w_on; o_law
  refine HandSHeadRun.head_any (r := OpenLaw.row PySem.Challenge.rw_truetotype_k25_bounds) (q := view (OpenLaw.row PySem.Challenge.rw_truetotype_k25_bounds).prog [Sk25.ixOf .f_law]) (H := Sk25.hk) (ob := Sk25.ob) (M := 4000) (loose := Sk25.looseL) (d := HandSHeadRun.topDef (OpenLaw.row PySem.Challenge.rw_truetotype_k25_bounds).prog (Sk25.ixOf .f_law)) (kwd := []) Sk25.ob_eq
    (by kernel_rfl) (fun s => by kernel_rfl) Sk25.run_eq (by kernel_rfl) (by kernel_rfl) (by kernel_rfl) (by rfl) (by first | assumption | decide +kernel) (by decide +kernel) ⟨rfl, rfl, rfl, rfl, rfl, by decide +kernel⟩ ?hw ?hc
  case hw => w_witness2
  case hc =>
    refine LamX.walk_ofTsE (l := PySem.Challenge.rw_truetotype_k25_bounds) (n := 63) (k := 4 * (28 + 1)) (x := "script") (CX := L2.CX (PySem.Challenge.rw_truetotype_k25_bounds).prog) rfl (by decide) (by kernel_rfl) ⟨rfl, by decide, by decide⟩ ?F ?C
    case C =>
      intro w H s e s' hc
      obtain ⟨_, _, _, _, _, _, _, _, _, _, _, _, z⟩ := hc
      exact z
    intro w mg fa h Y G hmg0
    obtain ⟨K, KX, c⟩ := Y
    have hmg : mg ("law" : PySem.Str) = some (.ref fa) := by
      have e : (HandSHeadRun.topDef (OpenLaw.row PySem.Challenge.rw_truetotype_k25_bounds).prog (Sk25.ixOf .f_law)).name = ("law" : PySem.Str) := by kernel_rfl
      rw [← e]
      exact hmg0
    exact ⟨K, KX, Sk25.law_at hgood KX G c hmg⟩
theorem PySem.Challenge.cw_truetotype_k25_bounds_holds : PySem.Challenge.rw_truetotype_k25_bounds.Holds :=
  Sk25.holds fun ns _ c hc => Sk25.law_goodT ns c hc
