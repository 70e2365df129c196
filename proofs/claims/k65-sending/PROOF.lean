import PyProof.Rows.All
import Wide.All
import OpenK.AllK
import Wide.FinOn
import HandS.ForMost
import HandS.Exc
import HandS.ExcOwn
import HandS.WordsExc
import HandS.Lambda
import HandS.EndTab
import HandS.Walk
import HandS.Style
import HandS.TupAny
import HandS.More
import HandS.IsInst
import HandS.Steps
import HandS.TupMul
import PyProof.IsRules
import HandS.Replace
import HandS.WordsDict
import HandS.Small
import HandS.Flow
import HandS.Zip
import HandS.Rev
import HandS.AnyAll
import HandS.GenOver
import PyProof.Draws
import PyProof.EnumMake
import KE.GoesEnum
import HandS.ExcIs
import HandS.HeadHook4
import HandS.HeadWalk
import HandS.Head0
import HandS.Head1
import HandS.Head2
import PySem.Challenge.RW_truetotype_k65_sending
import PyProof.ExcBaseAll.ValueError
import PyProof.ExcBaseAll.Exception
set_option Elab.async false
set_option linter.all false
set_option maxRecDepth 100000
/-! Sh: a pure reading of defs. Data by value (D), local containers by value (own, borrowed), shared objects by number. -/
namespace Sh
open PySem PySem.Spec PyProof.Rows L2

/-- data by value -/
inductive D where
  | non | bl (b : Bool) | int (i : Int) | str (x : Str) | ty (n : String) | tup (xs : List D) | ref (j : Nat)
  deriving Inhabited

/-- a container -/
inductive Cn where
  | lst (xs : List D) | dct (kvs : List (Key × D)) | fz (xs : List D)
  deriving Inhabited
/-- a shared object -/
inductive O where
  | lst (xs : List D) | dct (kvs : List (Key × D)) | ins (c : Str) (fs : List (Str × D))
  deriving Inhabited
/-- what stands in a slot -/
inductive Sl where
  | none | d (x : D) | own (c : Cn) | bor (c : Cn)
  deriving Inhabited
/-- what an expression gives: data, a new container, a container that is another's -/
inductive R where
  | d (x : D) | new (c : Cn) | bor (c : Cn)
  deriving Inhabited
abbrev Env' := List Sl
abbrev Hs := List O
/-- the end of an expression -/
inductive Rs (α : Type) where
  | ok (a : α) (h : Hs) | exc (c : Str) (h : Hs)
/-- the end of a statement -/
inductive Out where
  | nx (S : Env') (h : Hs) | ret (r : R) (h : Hs) | brk (S : Env') (h : Hs) | ct (S : Env') (h : Hs) | exc (c : Str) (S : Env') (h : Hs)
abbrev EX := Env' → Hs → Option (Rs R)
abbrev TX := Env' → Hs → Option (Rs Bool)
abbrev AX := Env' → Hs → Option (Rs (List R))
abbrev SX := Env' → Hs → Option Out

section
variable (K : PySem.W.Frag) (ρ : List Addr) (H : Hp)
mutual
inductive DV : V → D → Prop where
  | non : DV .non .non
  | bl (b : Bool) : DV (.bl b) (.bl b)
  | int (i : Int) : DV (.int i) (.int i)
  | str (x : Str) : DV (.str x) (.str x)
  | ty (n : String) : DV (.ty n) (.ty n)
  | tup {a : Addr} {vs : List V} {ds : List D} (h : SqT K H a vs) (r : DVs vs ds) : DV (.ref a) (.tup ds)
  | ref {j : Nat} {a : Addr} (h : ρ[j]? = some a) : DV (.ref a) (.ref j)
inductive DVs : List V → List D → Prop where
  | nil : DVs [] []
  | cons {v : V} {d : D} {vs : List V} {ds : List D} (h : DV v d) (r : DVs vs ds) : DVs (v :: vs) (d :: ds)
end
end

section
variable {K : PySem.W.Frag} {ρ ρ' : List Addr} {H H' : Hp}
theorem DVs.length : ∀ {vs : List V} {ds : List D}, DVs K ρ H vs ds → vs.length = ds.length
  | _, _, .nil => rfl
  | _, _, .cons _ r => by rw [List.length_cons, List.length_cons, DVs.length r]
mutual
theorem DV.mono (ht : ∀ a vs, SqT K H a vs → SqT K H' a vs) (hr : ∀ (j : Nat) a, ρ[j]? = some a → ρ'[j]? = some a) : ∀ {v : V} {d : D}, DV K ρ H v d → DV K ρ' H' v d
  | _, _, .non => .non
  | _, _, .bl b => .bl b
  | _, _, .int i => .int i
  | _, _, .str x => .str x
  | _, _, .ty n => .ty n
  | _, _, .tup h r => .tup (ht _ _ h) (DVs.mono ht hr r)
  | _, _, .ref h => .ref (hr _ _ h)
theorem DVs.mono (ht : ∀ a vs, SqT K H a vs → SqT K H' a vs) (hr : ∀ (j : Nat) a, ρ[j]? = some a → ρ'[j]? = some a) : ∀ {vs : List V} {ds : List D}, DVs K ρ H vs ds → DVs K ρ' H' vs ds
  | _, _, .nil => .nil
  | _, _, .cons h r => .cons (DV.mono ht hr h) (DVs.mono ht hr r)
end
theorem DVs.get : ∀ {vs : List V} {ds : List D} {i : Nat} {v : V}, DVs K ρ H vs ds → vs[i]? = some v → ∃ d, ds[i]? = some d ∧ DV K ρ H v d
  | _, _, _, _, .nil, e => by simp at e
  | _, _, 0, _, .cons h _, e => by simp at e; subst e; exact ⟨_, rfl, h⟩
  | _, _, i + 1, v, .cons _ r, e => by
    obtain ⟨d, e1, e2⟩ := DVs.get (i := i) (v := v) r (by simpa using e)
    exact ⟨d, by simpa using e1, e2⟩
theorem DVs.get' : ∀ {vs : List V} {ds : List D} {i : Nat} {d : D}, DVs K ρ H vs ds → ds[i]? = some d → ∃ v, vs[i]? = some v ∧ DV K ρ H v d
  | _, _, _, _, .nil, e => by simp at e
  | _, _, 0, _, .cons h _, e => by simp at e; subst e; exact ⟨_, rfl, h⟩
  | _, _, i + 1, d, .cons _ r, e => by
    obtain ⟨v, e1, e2⟩ := DVs.get' (i := i) (d := d) r (by simpa using e)
    exact ⟨v, by simpa using e1, e2⟩
theorem DVs.append : ∀ {vs ws : List V} {ds es : List D}, DVs K ρ H vs ds → DVs K ρ H ws es → DVs K ρ H (vs ++ ws) (ds ++ es)
  | _, _, _, _, .nil, s => s
  | _, _, _, _, .cons h r, s => .cons h (DVs.append r s)
theorem DVs.take : ∀ {vs : List V} {ds : List D} (n : Nat), DVs K ρ H vs ds → DVs K ρ H (vs.take n) (ds.take n)
  | _, _, 0, _ => .nil
  | _, _, _ + 1, .nil => .nil
  | _, _, n + 1, .cons h r => .cons h (DVs.take n r)
theorem DVs.drop : ∀ {vs : List V} {ds : List D} (n : Nat), DVs K ρ H vs ds → DVs K ρ H (vs.drop n) (ds.drop n)
  | _, _, 0, r => r
  | _, _, _ + 1, .nil => .nil
  | _, _, n + 1, .cons _ r => DVs.drop n r
theorem DVs.set {v : V} {d : D} (q : DV K ρ H v d) : ∀ {vs : List V} {ds : List D} (i : Nat), DVs K ρ H vs ds → DVs K ρ H (vs.set i v) (ds.set i d)
  | _, _, _, .nil => .nil
  | _, _, 0, .cons _ r => .cons q r
  | _, _, i + 1, .cons h r => .cons h (DVs.set q i r)
theorem DVs.reverse {vs : List V} {ds : List D} (r : DVs K ρ H vs ds) : DVs K ρ H vs.reverse ds.reverse := by
  induction vs generalizing ds with
  | nil => cases r; exact .nil
  | cons v vs ih =>
    cases r with
    | cons h r => rw [List.reverse_cons, List.reverse_cons]; exact (ih r).append (.cons h .nil)
theorem DVs.repl {v : V} {d : D} (q : DV K ρ H v d) : ∀ n : Nat, DVs K ρ H (List.replicate n v) (List.replicate n d)
  | 0 => .nil
  | n + 1 => .cons q (DVs.repl q n)
end

/-- keys and values -/
def KD (K : PySem.W.Frag) (ρ : List Addr) (H : Hp) (ks : List (Key × V)) (kd : List (Key × D)) : Prop := ks.map (·.1) = kd.map (·.1) ∧ DVs K ρ H (ks.map (·.2)) (kd.map (·.2))
def FD (K : PySem.W.Frag) (ρ : List Addr) (H : Hp) (ks : List (Str × V)) (kd : List (Str × D)) : Prop := ks.map (·.1) = kd.map (·.1) ∧ DVs K ρ H (ks.map (·.2)) (kd.map (·.2))
/-- a container that may be changed stands at a -/
def CM (K : PySem.W.Frag) (ρ : List Addr) (H : Hp) (a : Addr) : Cn → Prop
  | .lst ds => ∃ vs, H a = some (.lst vs) ∧ DVs K ρ H vs ds
  | .dct kd => ∃ ks, H a = some (.dK ks) ∧ KD K ρ H ks kd
  | .fz _ => False
/-- the containers' names -/
structure Pm where
  K : PySem.W.Frag
  T : List (Addr × Str)
  cad : Str → Addr
def OM (p : Pm) (ρ : List Addr) (H : Hp) (a : Addr) : O → Prop
  | .lst ds => ∃ vs, H a = some (.lst vs) ∧ DVs p.K ρ H vs ds
  | .dct kd => ∃ ks, H a = some (.dK ks) ∧ KD p.K ρ H ks kd
  | .ins c fs => ∃ dx gs, H a = some (.ins (p.cad c) dx gs) ∧ FD p.K ρ H gs fs
/-- a kind that may change -/
def MutO : HO → Prop
  | .lst _ => True
  | .dK _ => True
  | .ins _ _ _ => True
  | _ => False
theorem CM.mut {K : PySem.W.Frag} {ρ : List Addr} {H : Hp} {a : Addr} {c : Cn} (h : CM K ρ H a c) : ∃ o, H a = some o ∧ MutO o := by
  cases c with
  | lst ds => obtain ⟨vs, e, _⟩ := h; exact ⟨_, e, trivial⟩
  | dct kd => obtain ⟨vs, e, _⟩ := h; exact ⟨_, e, trivial⟩
  | fz ds => exact h.elim
theorem OM.mut {p : Pm} {ρ : List Addr} {H : Hp} {a : Addr} {o : O} (h : OM p ρ H a o) : ∃ u, H a = some u ∧ MutO u := by
  cases o with
  | lst ds => obtain ⟨vs, e, _⟩ := h; exact ⟨_, e, trivial⟩
  | dct kd => obtain ⟨vs, e, _⟩ := h; exact ⟨_, e, trivial⟩
  | ins c fs => obtain ⟨dx, gs, e, _⟩ := h; exact ⟨_, e, trivial⟩

/-- the shared objects stand -/
structure HR (p : Pm) (ρ : List Addr) (h : Hs) (H : Hp) : Prop where
  len : ρ.length = h.length
  nd : ρ.Nodup
  ob : ∀ (j : Nat) a o, ρ[j]? = some a → h[j]? = some o → OM p ρ H a o
theorem HR.mut {p : Pm} {ρ : List Addr} {h : Hs} {H : Hp} (r : HR p ρ h H) {a : Addr} (ha : a ∈ ρ) : ∃ u, H a = some u ∧ MutO u := by
  obtain ⟨j, hj, e⟩ := List.getElem_of_mem ha
  have hj' : j < h.length := by rw [← r.len]; exact hj
  exact (r.ob j a _ (by rw [List.getElem?_eq_getElem hj, e]) (List.getElem?_eq_getElem hj')).mut

theorem HR.free {p : Pm} {ρ : List Addr} {h : Hs} {H : Hp} (r : HR p ρ h H) {a : Addr} (hn : H a = none) : a ∉ ρ := fun m => by
  obtain ⟨u, e, _⟩ := r.mut m
  rw [hn] at e; cases e
def NoTbl (o : HO) : Prop := ∀ ps, o ≠ .tbl ps
theorem tbl_or {o : HO} (h : ¬ NoTbl o) : ∃ ps, o = .tbl ps := by
  cases o with
  | tbl ps => exact ⟨ps, rfl⟩
  | _ => exact absurd (fun ps z => by cases z) h
theorem MutO.noTbl {o : HO} (h : MutO o) : NoTbl o := fun ps z => by subst z; exact h
/-- from one moment to a later one, no local container written -/
structure Nx (p : Pm) (ρ : List Addr) (H : Hp) (ρ' : List Addr) (h' : Hs) (H' : Hp) : Prop where
  pre : ρ <+: ρ'
  hr : HR p ρ' h' H'
  fr : ∀ a o, H a = some o → NoTbl o → a ∉ ρ → H' a = some o
  nw : ∀ a ∈ ρ', a ∈ ρ ∨ H a = none
  tk : ∀ a ps, H a = some (.tbl ps) → ∃ qs, H' a = some (.tbl qs)
  tb : LamX.Tabs p.T H'
section
variable {p : Pm} {ρ ρ1 ρ2 : List Addr} {h h1 h2 : Hs} {H H1 H2 : Hp}
theorem pre_get {ρ ρ' : List Addr} (e : ρ <+: ρ') {j : Nat} {a : Addr} (q : ρ[j]? = some a) : ρ'[j]? = some a := by
  obtain ⟨t, rfl⟩ := e
  have hj := (List.getElem?_eq_some_iff.mp q).1
  rw [List.getElem?_append_left hj]; exact q
theorem Nx.refl (hr : HR p ρ h H) (tb : LamX.Tabs p.T H) : Nx p ρ H ρ h H := ⟨List.prefix_refl _, hr, fun _ _ e _ _ => e, fun _ m => .inl m, fun _ ps e => ⟨ps, e⟩, tb⟩
theorem Nx.trans (a : Nx p ρ H ρ1 h1 H1) (b : Nx p ρ1 H1 ρ2 h2 H2) : Nx p ρ H ρ2 h2 H2 where
  pre := a.pre.trans b.pre
  hr := b.hr
  fr := fun x o e nt nx => b.fr x o (a.fr x o e nt nx) nt fun m => (a.nw x m).elim nx fun z => by rw [e] at z; cases z
  nw := fun x m => by
    rcases b.nw x m with m1 | z
    · exact a.nw x m1
    · by_cases hx : x ∈ ρ
      · exact .inl hx
      · refine .inr ?_
        cases q : H x with
        | none => rfl
        | some o =>
          by_cases nt : NoTbl o
          · rw [a.fr x o q nt hx] at z; cases z
          · obtain ⟨ps, rfl⟩ := tbl_or nt
            obtain ⟨qs, e⟩ := a.tk x ps q
            rw [e] at z; cases z
  tk := fun x ps e => by
    obtain ⟨qs, e1⟩ := a.tk x ps e
    exact b.tk x qs e1
  tb := b.tb
/-- what is tracked stays tracked -/
theorem Nx.old (n : Nx p ρ H ρ1 h1 H1) {a : Addr} (z : H1 a = none) (hr : HR p ρ h H) : H a = none := by
  cases q : H a with
  | none => rfl
  | some o =>
    by_cases nt : NoTbl o
    · by_cases hx : a ∈ ρ
      · obtain ⟨u, e, _⟩ := n.hr.mut (n.pre.subset hx)
        rw [z] at e; cases e
      · rw [n.fr a o q nt hx] at z; cases z
    · obtain ⟨ps, rfl⟩ := tbl_or nt
      obtain ⟨qs, e⟩ := n.tk a ps q
      rw [e] at z; cases z
/-- what may be read and is no shared object -/
theorem rd_not {hr : HR p ρ h H} {a : Addr} {o u : HO} (e : H a = some o) (m : ¬ MutO o) : a ∉ ρ := fun hx => by
  obtain ⟨w, e1, e2⟩ := hr.mut hx
  rw [e] at e1; cases e1; exact m e2
theorem Nx.tup (n : Nx p ρ H ρ1 h1 H1) (hr : HR p ρ h H) {a : Addr} {vs : List V} (q : SqT p.K H a vs) : SqT p.K H1 a vs := by
  rcases q with (q | ⟨o, q⟩) | q
  · exact .inl (.inl (n.fr a _ q (fun _ z => nomatch z) (rd_not (hr := hr) (u := .tup vs) q (fun z => z))))
  · exact .inl (.inr ⟨o, n.fr a _ q (fun _ z => nomatch z) (rd_not (hr := hr) (u := .tup vs) q (fun z => z))⟩)
  · exact .inr q
theorem Nx.lst (n : Nx p ρ H ρ1 h1 H1) {a : Addr} {vs : List V} (q : SqL p.K H a vs) (ha : a ∉ ρ) : SqL p.K H1 a vs := by
  rcases q with (q | ⟨o, q⟩) | q
  · exact .inl (.inl (n.fr a _ q (fun _ z => nomatch z) ha))
  · exact .inl (.inr ⟨o, n.fr a _ q (fun _ z => nomatch z) ha⟩)
  · exact .inr q
theorem Nx.dv (n : Nx p ρ H ρ1 h1 H1) (hr : HR p ρ h H) {v : V} {d : D} (q : DV p.K ρ H v d) : DV p.K ρ1 H1 v d := q.mono (fun _ _ z => n.tup hr z) fun _ _ z => pre_get n.pre z
theorem Nx.dvs (n : Nx p ρ H ρ1 h1 H1) (hr : HR p ρ h H) {v : List V} {d : List D} (q : DVs p.K ρ H v d) : DVs p.K ρ1 H1 v d := q.mono (fun _ _ z => n.tup hr z) fun _ _ z => pre_get n.pre z
theorem Nx.cm (n : Nx p ρ H ρ1 h1 H1) (hr : HR p ρ h H) {a : Addr} {c : Cn} (q : CM p.K ρ H a c) (ha : a ∉ ρ) : CM p.K ρ1 H1 a c := by
  cases c with
  | lst ds => obtain ⟨vs, e, r⟩ := q; exact ⟨vs, n.fr a _ e (fun _ z => nomatch z) ha, n.dvs hr r⟩
  | dct kd => obtain ⟨ks, e, r1, r2⟩ := q; exact ⟨ks, n.fr a _ e (fun _ z => nomatch z) ha, r1, n.dvs hr r2⟩
  | fz ds => exact q.elim
theorem Nx.fresh (n : Nx p ρ H ρ1 h1 H1) {a : Addr} (hn : H a = some o) (ha : a ∉ ρ) : a ∉ ρ1 := fun m => (n.nw a m).elim ha fun z => by rw [hn] at z; cases z
end

/-- a list of the written part -/
def KL (K : PySem.W.Frag) (a : Addr) (xs : List V) : Prop := ∃ (o : Obj) (its : Array Value) (n : Nat), K.lookup a = some o ∧ o.cls = .type "list" ∧ o.dict = none ∧ o.data = .seq its n ∧ its.size ≤ sizeLine ∧ Vals xs its.toList
/-- a container that may be read stands at a -/
def BR (p : Pm) (ρ : List Addr) (H : Hp) (kn : Addr → Prop) (a : Addr) : Cn → Prop
  | .lst ds => ∃ vs, DVs p.K ρ H vs ds ∧ H a = some (.lst vs) ∧ a ∉ ρ ∧ kn a
  | .dct kd => ∃ ks, KD p.K ρ H ks kd ∧ H a = some (.dK ks) ∧ a ∉ ρ ∧ kn a
  | .fz ds => ∃ vs, DVs p.K ρ H vs ds ∧ (KL p.K a vs ∨ ((∃ o, H a = some (.frz o (.lst vs))) ∧ a ∉ ρ ∧ kn a))
theorem BR.imp {p : Pm} {ρ : List Addr} {H : Hp} {kn kn' : Addr → Prop} {a : Addr} {c : Cn} (h : BR p ρ H kn a c) (i : kn a → kn' a) : BR p ρ H kn' a c := by
  cases c with
  | lst ds =>
    obtain ⟨ks, r, q1, q2, q3⟩ := h
    exact ⟨ks, r, q1, q2, i q3⟩
  | dct kd =>
    obtain ⟨ks, r, q1, q2, q3⟩ := h
    exact ⟨ks, r, q1, q2, i q3⟩
  | fz ds =>
    obtain ⟨vs, r, q⟩ := h
    exact ⟨vs, r, q.imp id fun z => ⟨z.1, z.2.1, i z.2.2⟩⟩
theorem CM.br {p : Pm} {ρ : List Addr} {H : Hp} {kn : Addr → Prop} {a : Addr} {c : Cn} (h : CM p.K ρ H a c) (na : a ∉ ρ) (k : kn a) : BR p ρ H kn a c := by
  cases c with
  | lst ds => obtain ⟨vs, e, r⟩ := h; exact ⟨vs, r, e, na, k⟩
  | dct kd => obtain ⟨vs, e, r⟩ := h; exact ⟨vs, r, e, na, k⟩
  | fz ds => exact h.elim
theorem Nx.rd {p : Pm} {ρ ρ1 : List Addr} {h1 : Hs} {H H1 : Hp} (n : Nx p ρ H ρ1 h1 H1) {a : Addr} {u : HO} (q : Rd H a u) (hu : NoTbl u) (ha : a ∉ ρ) : Rd H1 a u ∧ a ∉ ρ1 := by
  rcases q with q | ⟨o, q⟩
  · exact ⟨.inl (n.fr a _ q hu ha), n.fresh q ha⟩
  · exact ⟨.inr ⟨o, n.fr a _ q (fun _ z => nomatch z) ha⟩, n.fresh q ha⟩
theorem Nx.br {p : Pm} {ρ ρ1 : List Addr} {h h1 : Hs} {H H1 : Hp} (n : Nx p ρ H ρ1 h1 H1) (hr : HR p ρ h H) {kn : Addr → Prop} {a : Addr} {c : Cn} (q : BR p ρ H kn a c) : BR p ρ1 H1 kn a c := by
  cases c with
  | lst ds =>
    obtain ⟨ks, r, e, na, k⟩ := q
    exact ⟨ks, n.dvs hr r, n.fr a _ e (fun _ z => nomatch z) na, n.fresh e na, k⟩
  | dct kd =>
    obtain ⟨ks, ⟨r1, r2⟩, e, na, k⟩ := q
    exact ⟨ks, ⟨r1, n.dvs hr r2⟩, n.fr a _ e (fun _ z => nomatch z) na, n.fresh e na, k⟩
  | fz ds =>
    obtain ⟨vs, r, q | ⟨⟨o, q1⟩, q2, q3⟩⟩ := q
    · exact ⟨vs, n.dvs hr r, .inl q⟩
    · exact ⟨vs, n.dvs hr r, .inr ⟨⟨o, n.fr a _ q1 (fun _ z => nomatch z) q2⟩, n.fresh q1 q2, q3⟩⟩
/-- known since the entry, or held -/
def Kn (G : List (Addr × HO)) (H0 : Hp) (a : Addr) : Prop := H0 a ≠ none ∨ ∃ q ∈ G, q.1 = a
/-- a slot -/
def SV (p : Pm) (ρ : List Addr) (G : List (Addr × HO)) (H0 H : Hp) : Sl → Option V → Prop
  | .none, _ => True
  | .d x, o => ∃ v, o = some v ∧ DV p.K ρ H v x
  | .own c, o => ∃ a, o = some (.ref a) ∧ CM p.K ρ H a c ∧ H0 a = none ∧ a ∉ ρ ∧ ∀ q ∈ G, q.1 ≠ a
  | .bor c, o => ∃ a, o = some (.ref a) ∧ BR p ρ H (Kn G H0) a c
def isOwn : Sl → Bool
  | .own _ => true
  | _ => false
/-- the state: slots, shared objects; ρ0, H0: at the def's entry; G: what loops hold -/
structure Stt (p : Pm) (ρ0 : List Addr) (H0 : Hp) (G : List (Addr × HO)) (ρ : List Addr) (S : Env') (h : Hs) (σ : L2.St) (H : Hp) : Prop where
  hr : HR p ρ h H
  tb : LamX.Tabs p.T H
  pre : ρ0 <+: ρ
  fr : ∀ a o, H0 a = some o → NoTbl o → a ∉ ρ → H a = some o
  nw : ∀ a ∈ ρ, a ∈ ρ0 ∨ H0 a = none
  tk : ∀ a ps, H0 a = some (.tbl ps) → ∃ qs, H a = some (.tbl qs)
  gh : ∀ q ∈ G, H q.1 = some q.2 ∧ NoTbl q.2 ∧ q.1 ∉ ρ
  len : S.length = σ.length
  sl : ∀ (i : Nat) s, S[i]? = some s → ∃ o, σ[i]? = some o ∧ SV p ρ G H0 H s o
  ap : ∀ (i j : Nat) s t a, i ≠ j → S[i]? = some s → S[j]? = some t → isOwn s = true → isOwn t = true → σ[i]? = some (some (V.ref a)) → σ[j]? ≠ some (some (V.ref a))
section
variable {p : Pm} {ρ0 ρ ρ1 ρ2 : List Addr} {G : List (Addr × HO)} {S : Env'} {σ : L2.St} {h h1 h2 : Hs} {H0 H H1 H2 : Hp}
/-- what is not tracked now was not at the entry -/
theorem Stt.old (s : Stt p ρ0 H0 G ρ S h σ H) {a : Addr} (z : H a = none) : H0 a = none ∧ a ∉ ρ ∧ (∀ q ∈ G, q.1 ≠ a) := by
  have na : a ∉ ρ := fun m => by
    obtain ⟨u, e, _⟩ := s.hr.mut m
    rw [z] at e; cases e
  refine ⟨?_, na, fun q hq e => ?_⟩
  · cases q : H0 a with
    | none => rfl
    | some o =>
      by_cases nt : NoTbl o
      · rw [s.fr a o q nt na] at z; cases z
      · obtain ⟨ps, rfl⟩ := tbl_or nt
        obtain ⟨qs, e⟩ := s.tk a ps q
        rw [z] at e; cases e
  · have := (s.gh q hq).1
    rw [e, z] at this; cases this
theorem SV.nx {G : List (Addr × HO)} {H0 : Hp} (n : Nx p ρ H ρ1 h1 H1) (hr : HR p ρ h H) {s : Sl} {o : Option V} (v : SV p ρ G H0 H s o) : SV p ρ1 G H0 H1 s o := by
  cases s with
  | none => trivial
  | d x => obtain ⟨v, e, r⟩ := v; exact ⟨v, e, n.dv hr r⟩
  | own c =>
    obtain ⟨a, e, r, z, na, g⟩ := v
    obtain ⟨u, e1, _⟩ := r.mut
    exact ⟨a, e, n.cm hr r na, z, n.fresh e1 na, g⟩
  | bor c =>
    obtain ⟨a, e, r⟩ := v
    exact ⟨a, e, n.br hr r⟩
/-- an expression has run -/
theorem Stt.nx (s : Stt p ρ0 H0 G ρ S h σ H) (n : Nx p ρ H ρ1 h1 H1) : Stt p ρ0 H0 G ρ1 S h1 σ H1 where
  hr := n.hr
  tb := n.tb
  pre := s.pre.trans n.pre
  fr := fun a o e nt na => n.fr a o (s.fr a o e nt fun m => na (n.pre.subset m)) nt fun m => na (n.pre.subset m)
  nw := fun a m => by
    rcases n.nw a m with m | z
    · exact s.nw a m
    · exact .inr (s.old z).1
  tk := fun a ps e => by
    obtain ⟨qs, e1⟩ := s.tk a ps e
    exact n.tk a qs e1
  gh := fun q hq => by
    obtain ⟨e, nt, na⟩ := s.gh q hq
    exact ⟨n.fr _ _ e nt na, nt, n.fresh e na⟩
  len := s.len
  sl := fun i sl hs => by
    obtain ⟨o, e, v⟩ := s.sl i sl hs
    exact ⟨o, e, v.nx n s.hr⟩
  ap := s.ap
end

/-! ### what an expression gives, as it stands -/
def RV (p : Pm) (ρ : List Addr) (Hb H : Hp) : V → R → Prop
  | v, .d x => DV p.K ρ H v x
  | v, .new c => ∃ a, v = .ref a ∧ Hb a = none ∧ a ∉ ρ ∧ CM p.K ρ H a c
  | v, .bor c => ∃ a, v = .ref a ∧ BR p ρ H (fun _ => True) a c
inductive RVs (p : Pm) (ρ : List Addr) (Hb H : Hp) : List V → List R → Prop where
  | nil : RVs p ρ Hb H [] []
  | cons {v : V} {r : R} {vs : List V} {rs : List R} (h : RV p ρ Hb H v r) (t : RVs p ρ Hb H vs rs) : RVs p ρ Hb H (v :: vs) (r :: rs)
section
variable {p : Pm} {ρ ρ1 ρ2 : List Addr} {h h1 h2 : Hs} {Hb H H1 H2 : Hp}
theorem RV.nx (n : Nx p ρ H ρ1 h1 H1) (hr : HR p ρ h H) {v : V} {r : R} (q : RV p ρ Hb H v r) : RV p ρ1 Hb H1 v r := by
  cases r with
  | d x => exact n.dv hr q
  | new c =>
    obtain ⟨a, e, z, na, m⟩ := q
    obtain ⟨u, e1, _⟩ := m.mut
    exact ⟨a, e, z, n.fresh e1 na, n.cm hr m na⟩
  | bor c => obtain ⟨a, e, m⟩ := q; exact ⟨a, e, n.br hr m⟩
theorem RV.back (n : Nx p ρ H ρ1 h1 H1) (hr : HR p ρ h H) {ρ' : List Addr} {H' : Hp} {v : V} {r : R} (q : RV p ρ' H1 H' v r) : RV p ρ' H H' v r := by
  cases r with
  | d x => exact q
  | new c => obtain ⟨a, e, z, na, m⟩ := q; exact ⟨a, e, n.old z hr, na, m⟩
  | bor c => exact q
theorem RVs.nx (n : Nx p ρ H ρ1 h1 H1) (hr : HR p ρ h H) : ∀ {vs : List V} {rs : List R}, RVs p ρ Hb H vs rs → RVs p ρ1 Hb H1 vs rs
  | _, _, .nil => .nil
  | _, _, .cons a t => .cons (a.nx n hr) (RVs.nx n hr t)
theorem RVs.back (n : Nx p ρ H ρ1 h1 H1) (hr : HR p ρ h H) {ρ' : List Addr} {H' : Hp} : ∀ {vs : List V} {rs : List R}, RVs p ρ' H1 H' vs rs → RVs p ρ' H H' vs rs
  | _, _, .nil => .nil
  | _, _, .cons a t => .cons (a.back n hr) (RVs.back n hr t)
theorem RVs.length : ∀ {vs : List V} {rs : List R}, RVs p ρ Hb H vs rs → vs.length = rs.length
  | _, _, .nil => rfl
  | _, _, .cons _ t => by rw [List.length_cons, List.length_cons, RVs.length t]
end
/-- the parts of a claim: tables, classes, the entry, what is wished of an exception -/
structure Cc where
  T : List (Addr × Str)
  cad : Str → Addr
  ρ0 : List Addr
  H0 : Hp
  W : WX
abbrev Cc.p (c : Cc) (K : PySem.W.Frag) : Pm := ⟨K, c.T, c.cad⟩
/-- an end of a computation that gives an α, told by rel as a β -/
def Ed {α β : Type} (p : Pm) (W : XK) (ρ : List Addr) (H : Hp) (o : Option (Rs α)) (rel : List Addr → Hp → Hp → β → α → Prop) (Q : β → Hp → Prop) : Prop :=
  match o with
  | none => False
  | some (.ok a h') => ∀ ρ' H' v, Nx p ρ H ρ' h' H' → rel ρ' H H' v a → Q v H'
  | some (.exc c h') => ∀ ρ' H', Nx p ρ H ρ' h' H' → W (.ref (p.cad c)) none H'
abbrev Bl : List Addr → Hp → Hp → Bool → Bool → Prop := fun _ _ _ b a => b = a
def tE (K : PySem.W.Frag) (c : Cc) (f : EX) : TE := fun σ H Q => ∃ G ρ S h, Stt (c.p K) c.ρ0 c.H0 G ρ S h σ H ∧ Ed (c.p K) (fun cls d H' => c.W cls d σ H') ρ H (f S h) (RV (c.p K)) Q
def tT (K : PySem.W.Frag) (c : Cc) (f : TX) : TT := fun σ H Q => ∃ G ρ S h, Stt (c.p K) c.ρ0 c.H0 G ρ S h σ H ∧ Ed (c.p K) (fun cls d H' => c.W cls d σ H') ρ H (f S h) Bl Q
def tA (K : PySem.W.Frag) (c : Cc) (f : AX) : TA := fun σ H Q => ∃ G ρ S h, Stt (c.p K) c.ρ0 c.H0 G ρ S h σ H ∧ Ed (c.p K) (fun cls d H' => c.W cls d σ H') ρ H (f S h) (RVs (c.p K)) Q
abbrev CE (X : Cx) (c : Cc) (e : Expr) (f : EX) : Prop := PE X e (tE X.K c f)
abbrev CT (X : Cx) (c : Cc) (e : Expr) (f : TX) : Prop := PT X e (tT X.K c f)
abbrev CA (X : Cx) (c : Cc) (es : List Expr) (f : AX) : Prop := PA X es (tA X.K c f)

/-! ### joining -/
/-- the first, then the rest from what it gave -/
def andThen {α β : Type} (o : Option (Rs α)) (k : α → Hs → Option (Rs β)) : Option (Rs β) :=
  match o with
  | none => none
  | some (.ok a h) => k a h
  | some (.exc c h) => some (.exc c h)
theorem Ed.bind {α β γ δ : Type} {p : Pm} {W : XK} {ρ : List Addr} {H : Hp} {o : Option (Rs α)} {k : α → Hs → Option (Rs γ)} {rel : List Addr → Hp → Hp → β → α → Prop} {rel2 : List Addr → Hp → Hp → δ → γ → Prop} {Q : δ → Hp → Prop} {Q1 : β → Hp → Prop}
    (e : Ed p W ρ H (andThen o k) rel2 Q)
    (hk : ∀ a h1 ρ1 H1 v, Nx p ρ H ρ1 h1 H1 → rel ρ1 H H1 v a → Ed p W ρ H (k a h1) rel2 Q → Q1 v H1) : Ed p W ρ H o rel Q1 := by
  cases o with
  | none => exact e
  | some r =>
    cases r with
    | ok a h1 => exact fun ρ1 H1 v n q => hk a h1 ρ1 H1 v n q e
    | exc c h1 => exact e
/-- from a later moment -/
theorem Ed.later {α β : Type} {p : Pm} {W : XK} {ρ ρ1 : List Addr} {h1 : Hs} {H H1 : Hp} {o : Option (Rs α)} {rel : List Addr → Hp → Hp → β → α → Prop} {Q : β → Hp → Prop} (e : Ed p W ρ H o rel Q) (n : Nx p ρ H ρ1 h1 H1)
    (hb : ∀ ρ' H' v a, rel ρ' H1 H' v a → rel ρ' H H' v a) : Ed p W ρ1 H1 o rel Q := by
  cases o with
  | none => exact e
  | some r =>
    cases r with
    | ok a h2 => exact fun ρ' H' v n2 q => e ρ' H' v (n.trans n2) (hb _ _ _ _ q)
    | exc c h2 => exact fun ρ' H' n2 => e ρ' H' (n.trans n2)
theorem Ed.bindAt {α β γ δ : Type} {p : Pm} {W : XK} {ρ ρ1 : List Addr} {h1 : Hs} {H H1 : Hp} {o : Option (Rs α)} {k : α → Hs → Option (Rs γ)} {rel : List Addr → Hp → Hp → β → α → Prop} {rel2 : List Addr → Hp → Hp → δ → γ → Prop} {Q : δ → Hp → Prop} {Q1 : β → Hp → Prop}
    (e : Ed p W ρ H (andThen o k) rel2 Q) (n1 : Nx p ρ H ρ1 h1 H1)
    (hk : ∀ a h2 ρ2 H2 v, Nx p ρ1 H1 ρ2 h2 H2 → rel ρ2 H1 H2 v a → Ed p W ρ H (k a h2) rel2 Q → Q1 v H2) : Ed p W ρ1 H1 o rel Q1 := by
  cases o with
  | none => exact e
  | some r =>
    cases r with
    | ok a h1 => exact fun ρ1 H1 v n q => hk a h1 ρ1 H1 v n q e
    | exc c h1 => exact fun ρ' H' n => e ρ' H' (n1.trans n)
end Sh
set_option Elab.async false
set_option linter.all false
set_option maxRecDepth 100000
namespace Sh
open PySem PySem.Spec PyProof.Rows L2

/-! ### steps of the abstract heap -/
section
variable {p : Pm} {ρ ρ1 : List Addr} {h h1 : Hs} {H H' H1 Hb : Hp}
/-- all that is tracked stays -/
def Ext (H H' : Hp) : Prop := ∀ a o, H a = some o → H' a = some o
theorem Ext.new {q : Addr} {o : HO} (hq : H q = none) : Ext H (upd H q o) := fun a u e => by rw [upd_ne (ne_of_none e hq)]; exact e
theorem Ext.sqt {K : PySem.W.Frag} (e : Ext H H') {a : Addr} {vs : List V} (q : SqT K H a vs) : SqT K H' a vs := by
  rcases q with (q | ⟨o, q⟩) | q
  · exact .inl (.inl (e _ _ q))
  · exact .inl (.inr ⟨o, e _ _ q⟩)
  · exact .inr q
theorem Ext.dv {K : PySem.W.Frag} (e : Ext H H') {v : V} {d : D} (q : DV K ρ H v d) : DV K ρ H' v d := q.mono (fun _ _ z => e.sqt z) fun _ _ z => z
theorem Ext.dvs {K : PySem.W.Frag} (e : Ext H H') {v : List V} {d : List D} (q : DVs K ρ H v d) : DVs K ρ H' v d := q.mono (fun _ _ z => e.sqt z) fun _ _ z => z
theorem OM.mono {a : Addr} {o : O} (e : Ext H H') (q : OM p ρ H a o) : OM p ρ H' a o := by
  cases o with
  | lst ds => obtain ⟨vs, x, r⟩ := q; exact ⟨vs, e _ _ x, e.dvs r⟩
  | dct kd => obtain ⟨vs, x, r1, r2⟩ := q; exact ⟨vs, e _ _ x, r1, e.dvs r2⟩
  | ins c fs => obtain ⟨dx, gs, x, r1, r2⟩ := q; exact ⟨dx, gs, e _ _ x, r1, e.dvs r2⟩
theorem Nx.ext (hr : HR p ρ h H) (tb : LamX.Tabs p.T H) (e : Ext H H') : Nx p ρ H ρ h H' where
  pre := List.prefix_refl _
  hr := ⟨hr.len, hr.nd, fun j a o h1 h2 => (hr.ob j a o h1 h2).mono e⟩
  fr := fun a o x _ _ => e a o x
  nw := fun _ m => .inl m
  tk := fun a ps x => ⟨ps, e _ _ x⟩
  tb := tb.ext e
theorem Nx.alloc (hr : HR p ρ h H) (tb : LamX.Tabs p.T H) {q : Addr} {o : HO} (hq : H q = none) : Nx p ρ H ρ h (upd H q o) := .ext hr tb (.new hq)
/-- an object that may change is written -/
theorem upd_sqt {K : PySem.W.Frag} {q : Addr} {u o : HO} (hq : H q = some u) (m : MutO u) {a : Addr} {vs : List V} (s : SqT K H a vs) : SqT K (upd H q o) a vs := by
  have ne : ∀ {w : HO}, H a = some w → ¬ MutO w → a ≠ q := fun e n z => by rw [z, hq] at e; cases e; exact n m
  rcases s with (s | ⟨o', s⟩) | s
  · exact .inl (.inl (by rw [upd_ne (ne s (fun z => z))]; exact s))
  · exact .inl (.inr ⟨o', by rw [upd_ne (ne s (fun z => z))]; exact s⟩)
  · exact .inr s
theorem upd_dv {K : PySem.W.Frag} {q : Addr} {u o : HO} (hq : H q = some u) (m : MutO u) {v : V} {d : D} (s : DV K ρ H v d) : DV K ρ (upd H q o) v d := s.mono (fun _ _ z => upd_sqt hq m z) fun _ _ z => z
theorem upd_dvs {K : PySem.W.Frag} {q : Addr} {u o : HO} (hq : H q = some u) (m : MutO u) {v : List V} {d : List D} (s : DVs K ρ H v d) : DVs K ρ (upd H q o) v d := s.mono (fun _ _ z => upd_sqt hq m z) fun _ _ z => z
end

/-! ### the rules' shape -/
section
variable {X : Cx} {c : Cc} {e a b : Expr} {fa fb : EX} {pos : Pos}
theorem pe_weak {t t' : TE} (he : PE X e t) (h : ∀ σ H Q, t' σ H Q → t σ H Q) : PE X e t' := ⟨fun pins s σ H Q I q => he.run pins s σ H Q I (h σ H Q q)⟩
theorem pt_weak {t t' : TT} (he : PT X e t) (h : ∀ σ H Q, t' σ H Q → t σ H Q) : PT X e t' := ⟨fun pins s σ H Q I q => he.run pins s σ H Q I (h σ H Q q)⟩
theorem pa_weak {es : List Expr} {t t' : TA} (he : PA X es t) (h : ∀ σ H Q, t' σ H Q → t σ H Q) : PA X es t' := ⟨fun ps pins s σ H Q I q => he.run ps pins s σ H Q I (h σ H Q q)⟩

/-- a value that a prim gives, the shared objects as they are -/
def Fin' (p : Pm) (ρ : List Addr) (h : Hs) (H : Hp) (o : Option R) (Q : VK) : Prop :=
  match o with
  | none => False
  | some z => ∀ H' v, Nx p ρ H ρ h H' → RV p ρ H H' v z → Q v H'
def lift {α : Type} (o : Option α) (h : Hs) : Option (Rs α) := match o with
  | none => none
  | some z => some (.ok z h)
theorem Ed.fin {p : Pm} {W : XK} {ρ : List Addr} {h : Hs} {H : Hp} {o : Option R} {Q : VK} (e : Ed p W ρ H (lift o h) (RV p) Q) : Fin' p ρ h H o Q := by
  cases o with
  | none => exact e
  | some z => exact fun H' v n r => e ρ H' v n r
/-- a two-place prim -/
abbrev P2f := R → R → Hs → Option R
def P2 (X : Cx) (c : Cc) (r : R2) (g : P2f) : Prop := ∀ ρ h H Ha Hb x y a b Q, HR (c.p X.K) ρ h H → LamX.Tabs c.T H → RV (c.p X.K) ρ Ha H x a → RV (c.p X.K) ρ Hb H y b → Fin' (c.p X.K) ρ h H (g a b h) Q → r x y H Q
abbrev P1f := R → Hs → Option R
def P1 (X : Cx) (c : Cc) (r : V → Hp → VK → Prop) (g : P1f) : Prop := ∀ ρ h H Ha x a Q, HR (c.p X.K) ρ h H → LamX.Tabs c.T H → RV (c.p X.K) ρ Ha H x a → Fin' (c.p X.K) ρ h H (g a h) Q → r x H Q
def op2 (g : P2f) (fa fb : EX) : EX := fun S h => andThen (fa S h) fun a h1 => andThen (fb S h1) fun b h2 => lift (g a b h2) h2
def op1 (g : P1f) (fa : EX) : EX := fun S h => andThen (fa S h) fun a h1 => lift (g a h1) h1

theorem RV.any {p : Pm} {ρ : List Addr} {Hb H : Hp} {v : V} {r : R} (q : RV p ρ Hb H v r) : RV p ρ Hb H v r := q
/-- two in a row, then what they come to -/
theorem tE_op {r : R2} {g : P2f} (hp : P2 X c r g) (σ : L2.St) (H : Hp) (Q : VK) (q : tE X.K c (op2 g fa fb) σ H Q) : tOp r (tE X.K c fa) (tE X.K c fb) σ H Q := by
  obtain ⟨G, ρ, S, h, s, e⟩ := q
  refine ⟨G, ρ, S, h, s, e.bind (rel := RV (c.p X.K)) fun a h1 ρ1 H1 x n1 rx e1 => ?_⟩
  have e1' := e1.later n1 fun _ _ _ _ z => z.back n1 s.hr
  refine ⟨G, ρ1, S, h1, s.nx n1, e1'.bind (rel := RV (c.p X.K)) fun b h2 ρ2 H2 y n2 ry e2 => ?_⟩
  have e2' := e2.later n2 fun _ _ _ _ z => z.back n2 n1.hr
  exact hp ρ2 h2 H2 _ _ x y a b Q n2.hr n2.tb (rx.nx n2 n1.hr) ry e2'.fin
theorem ce_op {op : Operator} {r : R2} {g : P2f} (ho : OpR X (binaryOp op) r) (hp : P2 X c r g) (ha : CE X c a fa) (hb : CE X c b fb) : CE X c (.BinOp a op b pos) (op2 g fa fb) :=
  pe_weak (pe_op ho ha hb) (tE_op hp)
theorem ce_cmp {op : CmpOp} {r : R2} {g : P2f} (ho : OpR X (compareOp op) r) (hp : P2 X c r g) (ha : CE X c a fa) (hb : CE X c b fb) (hm : behindInMarks op b = false) : CE X c (.Compare a [op] [b] pos) (op2 g fa fb) :=
  pe_weak (pe_cmpR ho ha hb hm) (tE_op hp)
theorem ce_un {op : UnaryOp} {r : V → Hp → VK → Prop} {g : P1f} (ho : UnR X (unaryOp op) r) (hp : P1 X c r g) (ha : CE X c a fa) : CE X c (.UnaryOp op a pos) (op1 g fa) := by
  refine pe_weak (pe_un ho ha) fun σ H Q q => ?_
  obtain ⟨G, ρ, S, h, s, e⟩ := q
  refine ⟨G, ρ, S, h, s, e.bind (rel := RV (c.p X.K)) fun a h1 ρ1 H1 x n1 rx e1 => ?_⟩
  exact hp ρ1 h1 H1 _ x a Q n1.hr n1.tb rx (e1.later n1 fun _ _ _ _ z => z.back n1 s.hr).fin
/-- a subscript -/
theorem ce_ix {r : R2} {g : P2f} (hr : IxR X r) (hp : P2 X c r g) (ha : CE X c a fa) (hb : CE X c b fb) (hs : PlainIx b := by exact fun _ _ => rfl) : CE X c (.Subscript a b pos) (op2 g fa fb) :=
  pe_weak (pe_ix hr ha hb hs) (tE_op hp)

/-! ### names, constants -/
def xVar (i : Nat) : EX := fun S h => match S[i]? with
  | some (.d x) => some (.ok (.d x) h)
  | some (.own k) => some (.ok (.bor k) h)
  | some (.bor k) => some (.ok (.bor k) h)
  | _ => none
def xC (d : D) : EX := fun _ h => some (.ok (.d d) h)
theorem ce_var {i : Nat} {x : Str} (hN : X.N[i]? = some x := by rfl) (hv : Vis X.env.scope x := by first | exact Or.inl rfl | exact Or.inr (Or.inl rfl) | exact Or.inr (Or.inr rfl)) (hd : (x == ("__debug__" : Str)) = false := by decide)
    (hcd : (x == ("__classdict__" : Str)) = false := by decide) : CE X c (.Name x pos) (xVar i) := by
  refine pe_weak (pe_var hN hv hd hcd) fun σ H Q q => ?_
  obtain ⟨G, ρ, S, h, s, e⟩ := q
  unfold xVar at e
  cases hS : S[i]? with
  | none => rw [hS] at e; exact e.elim
  | some sl =>
    rw [hS] at e
    obtain ⟨o, ho, v⟩ := s.sl i sl hS
    cases sl with
    | none => exact e.elim
    | d x =>
      obtain ⟨w, rfl, r⟩ := v
      exact ⟨w, ho, e ρ H w (.refl s.hr s.tb) r⟩
    | own k =>
      obtain ⟨w, rfl, r, _, na, _⟩ := v
      exact ⟨_, ho, e ρ H _ (.refl s.hr s.tb) ⟨w, rfl, r.br na trivial⟩⟩
    | bor k =>
      obtain ⟨w, rfl, r⟩ := v
      exact ⟨_, ho, e ρ H _ (.refl s.hr s.tb) ⟨w, rfl, r.imp fun _ => trivial⟩⟩
theorem ce_const {v : V} {d : D} (he : PE X e (tC v)) (hv : ∀ ρ H, DV X.K ρ H v d) : CE X c e (xC d) := by
  refine pe_weak he fun σ H Q q => ?_
  obtain ⟨G, ρ, S, h, s, e⟩ := q
  exact e ρ H v (.refl s.hr s.tb) (hv ρ H)
theorem ce_int {i : Int} {j : Nat} : CE X c (.Constant (.int i) j pos) (xC (.int i)) := ce_const pe_int fun _ _ => .int i
theorem ce_bl {i : Bool} {j : Nat} : CE X c (.Constant (.bool i) j pos) (xC (.bl i)) := ce_const pe_bl fun _ _ => .bl i
theorem ce_non {j : Nat} : CE X c (.Constant .none j pos) (xC .non) := ce_const pe_non fun _ _ => .non
theorem ce_str {i : Str} {j : Nat} : CE X c (.Constant (.str i) j pos) (xC (.str i)) := ce_const pe_str fun _ _ => .str i

/-! ### lists of expressions -/
def aNil : AX := fun _ h => some (.ok [] h)
def aCons (f : EX) (g : AX) : AX := fun S h => andThen (f S h) fun a h1 => andThen (g S h1) fun as h2 => some (.ok (a :: as) h2)
theorem ca_nil : CA X c [] aNil := by
  refine pa_weak pa_nil fun σ H Q q => ?_
  obtain ⟨G, ρ, S, h, s, e⟩ := q
  exact e ρ H [] (.refl s.hr s.tb) .nil
theorem ca_cons {es : List Expr} {f : EX} {g : AX} (ha : CE X c e f) (hr : CA X c es g) (hs : starEach (e :: es) X.env = (false, eval e X.env) :: starEach es X.env := by rfl) : CA X c (e :: es) (aCons f g) := by
  refine pa_weak (pa_cons ha hr hs) fun σ H Q q => ?_
  obtain ⟨G, ρ, S, h, s, e⟩ := q
  refine ⟨G, ρ, S, h, s, e.bind (rel := RV (c.p X.K)) fun a h1 ρ1 H1 x n1 rx e1 => ?_⟩
  refine ⟨G, ρ1, S, h1, s.nx n1, e1.bindAt n1 (rel := RVs (c.p X.K)) fun as h2 ρ2 H2 xs n2 rs e2 => ?_⟩
  exact e2 ρ2 H2 _ (n1.trans n2) (.cons (rx.nx n2 n1.hr) (rs.back n1 s.hr))
/-! ### tuples and lists written -/
/-- data alone -/
def dAll : List R → Option (List D)
  | [] => some []
  | .d x :: rs => match dAll rs with
    | some xs => some (x :: xs)
    | none => none
  | _ :: _ => none
theorem RVs.dvs {p : Pm} {ρ : List Addr} {Hb H : Hp} : ∀ {vs : List V} {rs : List R} {ds : List D}, RVs p ρ Hb H vs rs → dAll rs = some ds → DVs p.K ρ H vs ds
  | _, _, _, .nil, e => by
    cases e; exact .nil
  | _, _, ds, .cons (r := r) (rs := rs) h t, e => by
    cases r with
    | d x =>
      cases q : dAll rs with
      | none => simp only [dAll, q] at e; cases e
      | some xs =>
        simp only [dAll, q] at e; cases e
        exact .cons h (RVs.dvs t q)
    | new k => cases e
    | bor k => cases e
def xTup (g : AX) : EX := fun S h => andThen (g S h) fun rs h1 => match dAll rs with
  | some ds => if ds.length ≤ sizeLine then some (.ok (.d (.tup ds)) h1) else none
  | none => none
def xLst (g : AX) : EX := fun S h => andThen (g S h) fun rs h1 => match dAll rs with
  | some ds => if ds.length ≤ sizeLine then some (.ok (.new (.lst ds)) h1) else none
  | none => none
/-- a new object is handed on -/
theorem new_tup {p : Pm} {ρ : List Addr} {h : Hs} {H : Hp} {vs : List V} {ds : List D} {Q : VK} {z : Addr} (hr : HR p ρ h H) (tb : LamX.Tabs p.T H) (r : DVs p.K ρ H vs ds) (hz : H z = none)
    (e : Fin' p ρ h H (some (.d (.tup ds))) Q) : Q (.ref z) (upd H z (.tup vs)) :=
  e _ _ (.alloc hr tb hz) (.tup (SqT.of upd_same) ((Ext.new hz).dvs r))
theorem new_lst {p : Pm} {ρ : List Addr} {h : Hs} {H : Hp} {vs : List V} {ds : List D} {Q : VK} {z : Addr} (hr : HR p ρ h H) (tb : LamX.Tabs p.T H) (r : DVs p.K ρ H vs ds) (hz : H z = none)
    (e : Fin' p ρ h H (some (.new (.lst ds))) Q) : Q (.ref z) (upd H z (.lst vs)) :=
  e _ _ (.alloc hr tb hz) ⟨z, rfl, hz, hr.free hz, vs, upd_same, (Ext.new hz).dvs r⟩
theorem Ed.finE {p : Pm} {W : XK} {ρ ρ1 : List Addr} {h1 : Hs} {H H1 : Hp} {z : R} {Q : VK} {h : Hs} (e : Ed p W ρ H (some (.ok z h1)) (RV p) Q) (n : Nx p ρ H ρ1 h1 H1) (hr : HR p ρ h H) : Fin' p ρ1 h1 H1 (some z) Q :=
  fun H' v n2 r => e _ H' v (n.trans n2) (r.back n hr)
theorem ce_tup {es : List Expr} {g : AX} {k : Nat} (h : CA X c es g) : CE X c (.Tuple es k pos) (xTup g) := by
  refine pe_weak (pe_tup h) fun σ H Q q => ?_
  obtain ⟨G, ρ, S, h, s, e⟩ := q
  refine ⟨G, ρ, S, h, s, e.bind (rel := RVs (c.p X.K)) fun rs h1 ρ1 H1 xs n1 rx e1 => ?_⟩
  cases hd : dAll rs with
  | none => rw [hd] at e1; exact e1.elim
  | some ds =>
    have r := rx.dvs hd
    simp only [hd] at e1
    split at e1
    · rename_i hl
      exact ⟨by rw [r.length]; exact hl, fun z hz => new_tup n1.hr n1.tb r hz (e1.finE n1 s.hr)⟩
    · exact e1.elim
theorem ce_lst {es : List Expr} {g : AX} (h : CA X c es g) : CE X c (.List es pos) (xLst g) := by
  refine pe_weak (pe_lst h) fun σ H Q q => ?_
  obtain ⟨G, ρ, S, h, s, e⟩ := q
  refine ⟨G, ρ, S, h, s, e.bind (rel := RVs (c.p X.K)) fun rs h1 ρ1 H1 xs n1 rx e1 => ?_⟩
  cases hd : dAll rs with
  | none => rw [hd] at e1; exact e1.elim
  | some ds =>
    have r := rx.dvs hd
    simp only [hd] at e1
    split at e1
    · rename_i hl
      exact ⟨by rw [r.length]; exact hl, fun z hz => new_lst n1.hr n1.tb r hz (e1.finE n1 s.hr)⟩
    · exact e1.elim

/-! ### tests -/
def xAnd (f g : TX) : TX := fun S h => andThen (f S h) fun b h1 => if b = true then g S h1 else some (.ok false h1)
def xOr (f g : TX) : TX := fun S h => andThen (f S h) fun b h1 => if b = true then some (.ok true h1) else g S h1
def xNot (f : TX) : TX := fun S h => andThen (f S h) fun b h1 => some (.ok (!b) h1)
/-- truth of a value -/
def truD : D → Option Bool
  | .non => some false
  | .bl b => some b
  | .int i => some (i != 0)
  | .str x => if x.length ≤ sizeLine then some ((x.length : Int) != 0) else none
  | .tup xs => some (!xs.isEmpty)
  | _ => none
def truO : O → Option Bool
  | .lst xs => some (!xs.isEmpty)
  | .dct xs => some (!xs.isEmpty)
  | _ => none
def truC : Cn → Bool
  | .lst xs => !xs.isEmpty
  | .dct xs => !xs.isEmpty
  | .fz xs => !xs.isEmpty
def truR (r : R) (h : Hs) : Option Bool := match r with
  | .d (.ref j) => match h[j]? with
    | some o => truO o
    | none => none
  | .d x => truD x
  | .new k => some (truC k)
  | .bor k => some (truC k)
def xTru (f : EX) : TX := fun S h => andThen (f S h) fun r h1 => match truR r h1 with
  | some b => some (.ok b h1)
  | none => none
theorem DVs.emp {K : PySem.W.Frag} {ρ : List Addr} {H : Hp} {vs : List V} {ds : List D} (r : DVs K ρ H vs ds) : ds.isEmpty = vs.isEmpty := by cases r <;> rfl
theorem KD.emp {K : PySem.W.Frag} {ρ : List Addr} {H : Hp} {ks : List (Key × V)} {kd : List (Key × D)} (r : KD K ρ H ks kd) : kd.isEmpty = ks.isEmpty := by
  obtain ⟨e, _⟩ := r
  cases ks <;> cases kd <;> first | rfl | (simp at e)
theorem br_tru {p : Pm} {ρ : List Addr} {H : Hp} {kn : Addr → Prop} {a : Addr} {k : Cn} (q : BR p ρ H kn a k) : TruV p.K (.ref a) H (truC k) := by
  cases k with
  | lst ds => obtain ⟨vs, r, e, _⟩ := q; exact .inl ⟨vs, SqL.of e, by rw [← r.emp]; rfl⟩
  | dct kd => obtain ⟨ks, r, e, _⟩ := q; exact .inr (.inr ⟨ks, e, by rw [← r.emp]; rfl⟩)
  | fz ds =>
    obtain ⟨vs, r, e | ⟨⟨o, e⟩, _⟩⟩ := q
    · exact .inl ⟨vs, .inr e, by rw [← r.emp]; rfl⟩
    · exact .inl ⟨vs, .inl (.inr ⟨o, e⟩), by rw [← r.emp]; rfl⟩
theorem tru_of {p : Pm} {ρ : List Addr} {h : Hs} {Hb H : Hp} {v : V} {r : R} {b : Bool} (hr : HR p ρ h H) (q : RV p ρ Hb H v r) (e : truR r h = some b) : TruV p.K v H b := by
  cases r with
  | d x =>
    cases q with
    | non => cases e; exact rfl
    | bl b => cases e; exact rfl
    | int i => cases e; exact rfl
    | str x =>
      simp only [truR, truD] at e
      split at e
      · cases e; exact ⟨by assumption, rfl⟩
      · cases e
    | ty n => cases e
    | tup hs r => cases e; exact .inr (.inl ⟨_, hs, by rw [← r.emp]⟩)
    | ref hj =>
      rename_i j a
      simp only [truR] at e
      cases ho : h[j]? with
      | none => rw [ho] at e; cases e
      | some o =>
        rw [ho] at e
        have m := hr.ob j a o hj ho
        cases o with
        | lst ds => cases e; obtain ⟨vs, x, r⟩ := m; exact .inl ⟨vs, SqL.of x, by rw [← r.emp]⟩
        | dct kd => cases e; obtain ⟨ks, x, r⟩ := m; exact .inr (.inr ⟨ks, x, by rw [← r.emp]⟩)
        | ins c fs => cases e
  | new k =>
    obtain ⟨a, rfl, _, na, m⟩ := q
    cases e
    exact br_tru (m.br (kn := fun _ => True) na trivial)
  | bor k =>
    obtain ⟨a, rfl, m⟩ := q
    cases e
    exact br_tru m
theorem ct_tru {f : EX} (h : CE X c e f) (he : ∀ whole, isTrue e X.env whole = (do let v ← whole; standAt e.pos; holding [v] (truthy v)) := by exact fun _ => rfl) : CT X c e (xTru f) := by
  refine pt_weak (pt_truth h he) fun σ H Q q => ?_
  obtain ⟨G, ρ, S, h, s, e⟩ := q
  refine ⟨G, ρ, S, h, s, e.bind (rel := RV (c.p X.K)) fun r h1 ρ1 H1 x n1 rx e1 => ?_⟩
  cases ht : truR r h1 with
  | none => rw [ht] at e1; exact e1.elim
  | some b =>
    rw [ht] at e1
    exact ⟨b, tru_of n1.hr rx ht, e1 ρ1 H1 b n1 rfl⟩
/-- a comparison as a test -/
def xTest (f : EX) : TX := fun S h => andThen (f S h) fun r h1 => match r with
  | .d (.bl b) => some (.ok b h1)
  | _ => none
theorem ct_cmp {op : CmpOp} {r : R2} {g : P2f} (ho : OpR X (compareOp op) r) (hp : P2 X c r g) (ha : CE X c a fa) (hb : CE X c b fb) (hm : behindInMarks op b = false) : CT X c (.Compare a [op] [b] pos) (xTest (op2 g fa fb)) := by
  refine pt_weak (pt_cmpR ho ha hb hm) fun σ H Q q => ?_
  obtain ⟨G, ρ, S, h, s, e⟩ := q
  refine tE_op hp σ H _ ⟨G, ρ, S, h, s, ?_⟩
  refine e.bind (rel := RV (c.p X.K)) fun r h1 ρ1 H1 x n1 rx e1 => ?_
  cases r with
  | d x =>
    cases x with
    | bl b => cases rx; exact ⟨b, rfl, e1 ρ1 H1 b n1 rfl⟩
    | _ => exact e1.elim
  | _ => exact e1.elim
theorem ct_and {op : List Expr} {f g : TX} (ha : CT X c a f) (hb : PW X (.BoolOp .And (b :: op) pos) (tT X.K c g)) : PW X (.BoolOp .And (a :: b :: op) pos) (tT X.K c (xAnd f g)) := by
  refine ⟨fun wh pins s σ H Q I q => (pw_and ha hb).run wh pins s σ H Q I ?_⟩
  obtain ⟨G, ρ, S, h, s, e⟩ := q
  refine ⟨G, ρ, S, h, s, e.bind (rel := Bl) fun b h1 ρ1 H1 x n1 rx e1 => ?_⟩
  cases rx
  cases b with
  | true => exact iteT ⟨G, ρ1, S, h1, s.nx n1, Ed.later e1 n1 fun _ _ _ _ z => z⟩
  | false => exact iteF (e1 ρ1 H1 false n1 rfl)
theorem ct_or {op : List Expr} {f g : TX} (ha : CT X c a f) (hb : PW X (.BoolOp .Or (b :: op) pos) (tT X.K c g)) : PW X (.BoolOp .Or (a :: b :: op) pos) (tT X.K c (xOr f g)) := by
  refine ⟨fun wh pins s σ H Q I q => (pw_or ha hb).run wh pins s σ H Q I ?_⟩
  obtain ⟨G, ρ, S, h, s, e⟩ := q
  refine ⟨G, ρ, S, h, s, e.bind (rel := Bl) fun b h1 ρ1 H1 x n1 rx e1 => ?_⟩
  cases rx
  cases b with
  | true => exact iteT (e1 ρ1 H1 true n1 rfl)
  | false => exact iteF ⟨G, ρ1, S, h1, s.nx n1, Ed.later e1 n1 fun _ _ _ _ z => z⟩
theorem ct_not {f : TX} (ha : CT X c a f) : CT X c (.UnaryOp .Not a pos) (xNot f) := by
  refine pt_weak (pt_not ha) fun σ H Q q => ?_
  obtain ⟨G, ρ, S, h, s, e⟩ := q
  refine ⟨G, ρ, S, h, s, e.bind (rel := Bl) fun b h1 ρ1 H1 x n1 rx e1 => ?_⟩
  cases rx
  exact e1 ρ1 H1 _ n1 rfl
def xIf (t : TX) (f g : EX) : EX := fun S h => andThen (t S h) fun b h1 => if b = true then f S h1 else g S h1
theorem ce_if {t : TX} {f g : EX} (ht : CT X c e t) (ha : CE X c a f) (hb : CE X c b g) : CE X c (.IfExp e a b pos) (xIf t f g) := by
  refine pe_weak (pe_ifExp ht ha hb) fun σ H Q q => ?_
  obtain ⟨G, ρ, S, h, s, e⟩ := q
  refine ⟨G, ρ, S, h, s, e.bind (rel := Bl) fun b h1 ρ1 H1 x n1 rx e1 => ?_⟩
  cases rx
  cases b with
  | true => exact iteT ⟨G, ρ1, S, h1, s.nx n1, Ed.later e1 n1 fun _ _ _ _ z => z.back n1 s.hr⟩
  | false => exact iteF ⟨G, ρ1, S, h1, s.nx n1, Ed.later e1 n1 fun _ _ _ _ z => z.back n1 s.hr⟩
end
end Sh
set_option Elab.async false
set_option linter.all false
set_option maxRecDepth 100000
namespace Sh
open PySem PySem.Spec PyProof.Rows L2

/-! ### views -/
/-- as a list that stands by itself -/
def lstOf (r : R) (h : Hs) : Option (List D) := match r with
  | .new (.lst xs) => some xs
  | .bor (.lst xs) => some xs
  | .d (.ref j) => match h[j]? with
    | some (.lst xs) => some xs
    | _ => none
  | _ => none
/-- as a list or a tuple to be read -/
def seqOf (r : R) (h : Hs) : Option (List D) := match r with
  | .d (.tup xs) => some xs
  | .bor (.fz xs) => some xs
  | r => lstOf r h
def intOf (r : R) : Option Int := match r with
  | .d (.int i) => some i
  | _ => none
def strOf (r : R) : Option Str := match r with
  | .d (.str i) => some i
  | _ => none
def tupOf (r : R) : Option (List D) := match r with
  | .d (.tup xs) => some xs
  | _ => none
def blOf (r : R) : Option Bool := match r with
  | .d (.bl i) => some i
  | _ => none
section
variable {p : Pm} {ρ : List Addr} {h : Hs} {Hb H : Hp} {v : V} {r : R}
theorem int_of {i : Int} (q : RV p ρ Hb H v r) (e : intOf r = some i) : v = .int i := by
  cases r with
  | d x => cases x <;> cases e; cases q; rfl
  | _ => cases e
theorem str_of {i : Str} (q : RV p ρ Hb H v r) (e : strOf r = some i) : v = .str i := by
  cases r with
  | d x => cases x <;> cases e; cases q; rfl
  | _ => cases e
theorem bl_of {i : Bool} (q : RV p ρ Hb H v r) (e : blOf r = some i) : v = .bl i := by
  cases r with
  | d x => cases x <;> cases e; cases q; rfl
  | _ => cases e
theorem tup_of {ds : List D} (q : RV p ρ Hb H v r) (e : tupOf r = some ds) : ∃ a vs, v = .ref a ∧ SqT p.K H a vs ∧ DVs p.K ρ H vs ds := by
  cases r with
  | d x =>
    cases x <;> cases e
    cases q with
    | tup hs r => exact ⟨_, _, rfl, hs, r⟩
  | _ => cases e
theorem lst_of {ds : List D} (hr : HR p ρ h H) (q : RV p ρ Hb H v r) (e : lstOf r h = some ds) : ∃ a vs, v = .ref a ∧ H a = some (.lst vs) ∧ DVs p.K ρ H vs ds := by
  cases r with
  | d x =>
    cases x with
    | ref j =>
      cases q with
      | ref hj =>
        simp only [lstOf] at e
        cases ho : h[j]? with
        | none => rw [ho] at e; cases e
        | some o =>
          rw [ho] at e
          have m := hr.ob j _ o hj ho
          cases o with
          | lst xs => cases e; obtain ⟨vs, e1, e2⟩ := m; exact ⟨_, vs, rfl, e1, e2⟩
          | _ => cases e
    | _ => cases e
  | new k =>
    obtain ⟨a, rfl, _, _, m⟩ := q
    cases k with
    | lst xs => cases e; obtain ⟨vs, e1, e2⟩ := m; exact ⟨a, vs, rfl, e1, e2⟩
    | _ => cases e
  | bor k =>
    obtain ⟨a, rfl, m⟩ := q
    cases k with
    | lst xs => cases e; obtain ⟨vs, e1, e2, _⟩ := m; exact ⟨a, vs, rfl, e2, e1⟩
    | _ => cases e
theorem seq_of {ds : List D} (hr : HR p ρ h H) (q : RV p ρ Hb H v r) (e : seqOf r h = some ds) : ∃ a vs, v = .ref a ∧ (SqL p.K H a vs ∨ SqT p.K H a vs) ∧ DVs p.K ρ H vs ds := by
  have go : lstOf r h = some ds → ∃ a vs, v = .ref a ∧ (SqL p.K H a vs ∨ SqT p.K H a vs) ∧ DVs p.K ρ H vs ds := fun e => by
    obtain ⟨a, vs, e1, e2, e3⟩ := lst_of hr q e
    exact ⟨a, vs, e1, .inl (SqL.of e2), e3⟩
  cases r with
  | d x =>
    cases x with
    | tup xs =>
      cases e
      obtain ⟨a, vs, e1, e2, e3⟩ := tup_of q rfl
      exact ⟨a, vs, e1, .inr e2, e3⟩
    | ref j => exact go e
    | _ => cases e
  | new k => exact go e
  | bor k =>
    cases k with
    | fz xs =>
      cases e
      obtain ⟨a, rfl, vs, e1, e2 | ⟨⟨o, e2⟩, _⟩⟩ := q
      · exact ⟨a, vs, rfl, .inl (.inr e2), e1⟩
      · exact ⟨a, vs, rfl, .inl (.inl (.inr ⟨o, e2⟩)), e1⟩
    | _ => exact go e
theorem fin_d {Q : VK} {x : D} {v : V} (hr : HR p ρ h H) (tb : LamX.Tabs p.T H) (e : Fin' p ρ h H (some (.d x)) Q) (q : DV p.K ρ H v x) : Q v H := e H v (.refl hr tb) q
end

/-! ### ints, texts, lists, tuples: + - * // % -/
def gAdd : P2f := fun a b h => match a, b with
  | .d (.int i), .d (.int j) => some (.d (.int (i + j)))
  | .d (.str x), .d (.str y) => if x.length + y.length ≤ sizeLine then some (.d (.str (x ++ y))) else none
  | .d (.tup xs), .d (.tup ys) => if xs.length + ys.length ≤ sizeLine then some (.d (.tup (xs ++ ys))) else none
  | a, b => match lstOf a h, lstOf b h with
    | some xs, some ys => if xs.length + ys.length ≤ sizeLine then some (.new (.lst (xs ++ ys))) else none
    | _, _ => none
def rAddA (K : PySem.W.Frag) : R2 := fun x y H Q => rI0 (fun i j => .int (i + j)) x y H Q ∨ (∃ i j, x = .str i ∧ y = .str j ∧ i.length + j.length ≤ sizeLine ∧ Q (.str (i ++ j)) H) ∨ rCatA K x y H Q ∨ rCat x y H Q
section
variable {X : Cx} {c : Cc}
theorem op_addA : OpR X (binaryOp .Add) (rAddA X.K) := op_add.or (op_add_str.or (op_catA.or op_cat))
theorem p2_add : P2 X c (rAddA X.K) gAdd := by
  intro ρ h H Ha Hb x y a b Q hr tb qa qb e
  have lists : (match lstOf a h, lstOf b h with
    | some xs, some ys => if xs.length + ys.length ≤ sizeLine then some (R.new (.lst (xs ++ ys))) else none
    | _, _ => none) = gAdd a b h → rAddA X.K x y H Q := fun eq => by
    rw [← eq] at e
    cases la : lstOf a h with
    | none => rw [la] at e; exact e.elim
    | some xs =>
      cases lb : lstOf b h with
      | none => rw [la, lb] at e; exact e.elim
      | some ys =>
        rw [la, lb] at e
        obtain ⟨p, vs, rfl, h1, r1⟩ := lst_of hr qa la
        obtain ⟨q, ws, rfl, h2, r2⟩ := lst_of hr qb lb
        simp only at e
        split at e
        · rename_i hz
          exact .inr (.inr (.inr ⟨p, q, vs, ws, rfl, rfl, h1, h2, by rw [r1.length, r2.length]; exact hz, fun z hz => new_lst hr tb (r1.append r2) hz e⟩))
        · exact e.elim
  cases a with
  | d u =>
    cases b with
    | d w =>
      cases u <;> cases w <;> first | exact lists rfl | skip
      · cases qa; cases qb
        exact .inl ⟨_, _, rfl, rfl, fin_d hr tb e (.int _)⟩
      · rename_i i j
        cases qa; cases qb
        unfold gAdd at e
        simp only at e
        split at e
        · exact .inr (.inl ⟨_, _, rfl, rfl, by assumption, fin_d hr tb e (.str _)⟩)
        · exact e.elim
      · rename_i xs ys
        obtain ⟨p, vs, rfl, h1, r1⟩ := tup_of qa rfl
        obtain ⟨q, ws, rfl, h2, r2⟩ := tup_of qb rfl
        unfold gAdd at e
        simp only at e
        split at e
        · rename_i hz
          refine .inr (.inr (.inl ⟨p, q, vs, ws, rfl, rfl, h1, h2, by rw [r1.length, r2.length]; exact hz, fun hv => ?_, fun hv hw => ?_, fun _ _ z hz => new_tup hr tb (r1.append r2) hz e⟩))
          · subst hv; cases r1
            exact fin_d hr tb e (.tup h2 r2)
          · subst hw; cases r2
            rw [List.append_nil] at e
            exact fin_d hr tb e (.tup h1 r1)
        · exact e.elim
    | _ => exact lists (by cases u <;> rfl)
  | _ => exact lists (by cases b <;> rfl)
/-- a prim on two ints -/
def gI (g : Int → Int → Option D) : P2f := fun a b _ => match intOf a, intOf b with
  | some i, some j => (g i j).map R.d
  | _, _ => none
theorem p2_int {C : Int → Int → Prop} [∀ i j, Decidable (C i j)] {f : Int → Int → V} {g : Int → Int → D} (hv : ∀ K ρ H i j, DV K ρ H (f i j) (g i j)) : P2 X c (rI C f) (gI fun i j => if C i j then some (g i j) else none) := by
  intro ρ h H Ha Hb x y a b Q hr tb qa qb e
  unfold gI at e
  cases ia : intOf a with
  | none => rw [ia] at e; exact e.elim
  | some i =>
    cases ib : intOf b with
    | none => rw [ia, ib] at e; exact e.elim
    | some j =>
      rw [ia, ib] at e
      simp only at e
      split at e
      · rename_i hc
        exact ⟨i, j, int_of qa ia, int_of qb ib, hc, fin_d hr tb e (hv _ _ _ i j)⟩
      · exact e.elim
theorem p2_int0 {f : Int → Int → V} {g : Int → Int → D} (hv : ∀ K ρ H i j, DV K ρ H (f i j) (g i j)) : P2 X c (rI0 f) (gI fun i j => some (g i j)) := by
  intro ρ h H Ha Hb x y a b Q hr tb qa qb e
  unfold gI at e
  cases ia : intOf a with
  | none => rw [ia] at e; exact e.elim
  | some i =>
    cases ib : intOf b with
    | none => rw [ia, ib] at e; exact e.elim
    | some j =>
      rw [ia, ib] at e
      exact ⟨i, j, int_of qa ia, int_of qb ib, fin_d hr tb e (hv _ _ _ i j)⟩
noncomputable instance : ∀ i j, Decidable (CMul i j) := fun i j => Classical.propDecidable _
instance : ∀ i j, Decidable (CDiv i j) := fun i j => inferInstanceAs (Decidable (_ ∧ _))
def gSub : P2f := gI fun i j => some (.int (i - j))
def gDiv : P2f := gI fun i j => if CDiv i j then some (.int (i / j)) else none
def gMod : P2f := gI fun i j => if 0 < j then some (.int (i % j)) else none
def gLt : P2f := gI fun i j => some (.bl (decide (i < j)))
def gLe : P2f := gI fun i j => some (.bl (decide (i ≤ j)))
def gGt : P2f := gI fun i j => some (.bl (decide (j < i)))
def gGe : P2f := gI fun i j => some (.bl (decide (j ≤ i)))
theorem p2_sub : P2 X c (rI0 fun i j => .int (i - j)) gSub := p2_int0 fun _ _ _ _ _ => .int _
theorem p2_div : P2 X c (rI CDiv fun i j => .int (i / j)) gDiv := p2_int fun _ _ _ _ _ => .int _
theorem p2_mod : P2 X c (rI (fun _ j => 0 < j) fun i j => .int (i % j)) gMod := p2_int fun _ _ _ _ _ => .int _
theorem p2_lt : P2 X c (rI0 fun i j => .bl (decide (i < j))) gLt := p2_int0 fun _ _ _ _ _ => .bl _
theorem p2_le : P2 X c (rI0 fun i j => .bl (decide (i ≤ j))) gLe := p2_int0 fun _ _ _ _ _ => .bl _
theorem p2_gt : P2 X c (rI0 fun i j => .bl (decide (j < i))) gGt := p2_int0 fun _ _ _ _ _ => .bl _
theorem p2_ge : P2 X c (rI0 fun i j => .bl (decide (j ≤ i))) gGe := p2_int0 fun _ _ _ _ _ => .bl _
/-- * of ints, a list or a tuple by an int -/
noncomputable def gMul : P2f := fun a b h => match a, b with
  | .d (.int i), .d (.int j) => if CMul i j then some (.d (.int (i * j))) else none
  | .d (.tup xs), .d (.int k) => if xs ≠ [] ∧ 2 ≤ k ∧ k ≤ 1000 ∧ xs.length ≤ 1000 then some (.d (.tup (List.replicate k.toNat xs).flatten)) else none
  | a, .d (.int k) => match lstOf a h with
    | some xs => if -(2 ^ 63) ≤ k ∧ k < 2 ^ 63 ∧ xs.length * k.toNat ≤ sizeLine then some (.new (.lst (List.replicate k.toNat xs).flatten)) else none
    | _ => none
  | _, _ => none
def rMulA (K : PySem.W.Frag) : R2 := fun x y H Q => rI CMul (fun i j => .int (i * j)) x y H Q ∨ rRepT K x y H Q ∨ rRep x y H Q
theorem op_mulA : OpR X (binaryOp .Mult) (rMulA X.K) := op_mul.or (op_repT.or op_rep)
theorem DVs.rep {K : PySem.W.Frag} {ρ : List Addr} {H : Hp} {vs : List V} {ds : List D} (r : DVs K ρ H vs ds) : ∀ n : Nat, DVs K ρ H (List.replicate n vs).flatten (List.replicate n ds).flatten
  | 0 => .nil
  | n + 1 => by rw [List.replicate_succ, List.replicate_succ, List.flatten_cons, List.flatten_cons]; exact r.append (DVs.rep r n)
theorem DVs.ne {K : PySem.W.Frag} {ρ : List Addr} {H : Hp} {vs : List V} {ds : List D} (r : DVs K ρ H vs ds) (h : ds ≠ []) : vs ≠ [] := fun e => by subst e; cases r; exact h rfl
theorem p2_mul : P2 X c (rMulA X.K) gMul := by
  intro ρ h H Ha Hb x y a b Q hr tb qa qb e
  have lists : ∀ k, b = .d (.int k) → (match lstOf a h with
    | some xs => if -(2 ^ 63) ≤ k ∧ k < 2 ^ 63 ∧ xs.length * k.toNat ≤ sizeLine then some (R.new (.lst (List.replicate k.toNat xs).flatten)) else none
    | _ => none) = gMul a b h → rMulA X.K x y H Q := fun k hb eq => by
    rw [← eq] at e
    subst hb
    cases la : lstOf a h with
    | none => rw [la] at e; exact e.elim
    | some xs =>
      rw [la] at e
      obtain ⟨p, vs, rfl, h1, r1⟩ := lst_of hr qa la
      cases qb
      simp only at e
      split at e
      · rename_i hz
        exact .inr (.inr ⟨p, k, vs, rfl, rfl, h1, hz.1, hz.2.1, by rw [r1.length]; exact hz.2.2, fun z hz => new_lst hr tb (r1.rep _) hz e⟩)
      · exact e.elim
  cases b with
  | d w =>
    cases w with
    | int k =>
      cases a with
      | d u =>
        cases u with
        | int i =>
          cases qa; cases qb
          unfold gMul at e
          simp only at e
          split at e
          · exact .inl ⟨_, _, rfl, rfl, by assumption, fin_d hr tb e (.int _)⟩
          · exact e.elim
        | tup xs =>
          obtain ⟨p, vs, rfl, h1, r1⟩ := tup_of qa rfl
          cases qb
          unfold gMul at e
          simp only at e
          split at e
          · rename_i hz
            exact .inr (.inl ⟨p, k, vs, rfl, rfl, h1, r1.ne hz.1, hz.2.1, hz.2.2.1, by rw [r1.length]; exact hz.2.2.2, fun z hz => new_tup hr tb (r1.rep _) hz e⟩)
          · exact e.elim
        | _ => exact lists k rfl rfl
      | _ => exact lists k rfl rfl
    | _ => cases a <;> (try rename_i u; cases u) <;> exact e.elim
  | _ => cases a <;> (try rename_i u; cases u) <;> exact e.elim
def gNeg : P1f := fun a _ => match intOf a with
  | some i => some (.d (.int (-i)))
  | none => none
theorem p1_neg : P1 X c (rU fun i => .int (-i)) gNeg := by
  intro ρ h H Ha x a Q hr tb qa e
  unfold gNeg at e
  cases ia : intOf a with
  | none => rw [ia] at e; exact e.elim
  | some i => rw [ia] at e; exact ⟨i, int_of qa ia, fin_d hr tb e (.int _)⟩
end
end Sh
set_option Elab.async false
set_option linter.all false
set_option maxRecDepth 100000
namespace Sh
open PySem PySem.Spec PyProof.Rows L2

/-! ### is, is not -/
def idV (x y : V) : Option Bool := match x, y with
  | .non, .non => some true
  | .bl a, .bl b => some (decide (a = b))
  | .ty a, .ty b => some (decide (a = b))
  | .bl _, .non => some false
  | .int _, .non => some false
  | .str _, .non => some false
  | .ref _, .non => some false
  | .ty _, .non => some false
  | .non, .bl _ => some false
  | .int _, .bl _ => some false
  | .str _, .bl _ => some false
  | .ref _, .bl _ => some false
  | .ty _, .bl _ => some false
  | _, _ => none
def rIsA : R2 := fun x y H Q => ∃ b, idV x y = some b ∧ Q (.bl b) H
def rNotA : R2 := fun x y H Q => ∃ b, idV x y = some b ∧ Q (.bl (!b)) H
theorem idV_of {x y : V} {v u : Value} {b : Bool} (rx : RelV x v) (ry : RelV y u) (e : idV x y = some b) : plainIs v u = true ∧ (v == u) = b := by
  cases x <;> cases y <;> first | (simp only [idV] at e; cases e; done) | skip
  · cases rx; cases ry; cases e; exact ⟨rfl, rfl⟩
  · cases rx; cases ry; cases e; exact ⟨rfl, rfl⟩
  · cases rx; cases ry; cases e; exact ⟨rfl, rfl⟩
  · cases rx; cases ry; cases e
    rename_i a b
    exact ⟨rfl, by cases a <;> cases b <;> rfl⟩
  · obtain ⟨t, rfl⟩ := rx; cases ry; cases e; exact ⟨rfl, rfl⟩
  · obtain ⟨t, rfl⟩ := rx; cases ry; cases e; exact ⟨rfl, rfl⟩
  · obtain ⟨t, rfl⟩ := rx; cases ry; cases e; exact ⟨rfl, rfl⟩
  · obtain ⟨t, rfl⟩ := rx; cases ry; cases e; exact ⟨rfl, rfl⟩
  · cases rx; cases ry; cases e; exact ⟨rfl, rfl⟩
  · cases rx; cases ry; cases e; exact ⟨rfl, rfl⟩
  · cases rx; cases ry; cases e; exact ⟨rfl, rfl⟩
  · cases rx; cases ry; cases e; exact ⟨rfl, rfl⟩
  · cases rx; cases ry; cases e; exact ⟨rfl, ty_beq _ _⟩
def idR (a b : R) : Option Bool := match a, b with
  | .d .non, .d .non => some true
  | .d (.bl a), .d (.bl b) => some (decide (a = b))
  | .d (.ty a), .d (.ty b) => some (decide (a = b))
  | .d .non, .d (.bl _) => some false
  | .d .non, _ => none
  | .d (.bl _), .d .non => some false
  | .d (.bl _), _ => none
  | _, .d .non => some false
  | _, .d (.bl _) => some false
  | _, _ => none
section
variable {X : Cx} {c : Cc}
theorem op_isA : OpR X (compareOp .Is) rIsA := by
  intro pins s σ H x y v u Q I rx ry h
  obtain ⟨b, e, q⟩ := h
  obtain ⟨h1, h2⟩ := idV_of rx ry e
  exact wpAny_is_plain h1 (fin_bl I q h2.symm)
theorem op_isNotA : OpR X (compareOp .IsNot) rNotA := by
  intro pins s σ H x y v u Q I rx ry h
  obtain ⟨b, e, q⟩ := h
  obtain ⟨h1, h2⟩ := idV_of rx ry e
  exact wpAny_isNot_plain h1 (fin_bl I q (by rw [h2]))
theorem idR_V {p : Pm} {ρ : List Addr} {Ha Hb H : Hp} {x y : V} {a b : R} {k : Bool} (qa : RV p ρ Ha H x a) (qb : RV p ρ Hb H y b) (e : idR a b = some k) : idV x y = some k := by
  cases a with
  | d u =>
    cases b with
    | d w =>
      cases u <;> cases w <;> first | (simp only [idR] at e; cases e; done) | (cases qa; cases qb; cases e; rfl)
    | _ => cases u <;> (simp only [idR] at e; cases e)
  | new k =>
    obtain ⟨z, rfl, _⟩ := qa
    cases b with
    | d w => cases w <;> first | (simp only [idR] at e; cases e; done) | (cases qb; cases e; rfl)
    | _ => simp only [idR] at e; cases e
  | bor k =>
    obtain ⟨z, rfl, _⟩ := qa
    cases b with
    | d w => cases w <;> first | (simp only [idR] at e; cases e; done) | (cases qb; cases e; rfl)
    | _ => simp only [idR] at e; cases e
def gIs : P2f := fun a b _ => (idR a b).map fun k => .d (.bl k)
def gIsNot : P2f := fun a b _ => (idR a b).map fun k => .d (.bl (!k))
theorem p2_is : P2 X c rIsA gIs := by
  intro ρ h H Ha Hb x y a b Q hr tb qa qb e
  unfold gIs at e
  cases k : idR a b with
  | none => rw [k] at e; exact e.elim
  | some k' => rw [k] at e; exact ⟨k', idR_V qa qb k, fin_d hr tb e (.bl _)⟩
theorem p2_isNot : P2 X c rNotA gIsNot := by
  intro ρ h H Ha Hb x y a b Q hr tb qa qb e
  unfold gIsNot at e
  cases k : idR a b with
  | none => rw [k] at e; exact e.elim
  | some k' => rw [k] at e; exact ⟨k', idR_V qa qb k, fin_d hr tb e (.bl _)⟩

/-! ### == and != of data -/
mutual
def pyD : D → Option PyData
  | .non => some .none
  | .bl b => some (.bool b)
  | .int i => some (.int i)
  | .str x => some (.str x)
  | .tup xs => match pyDs xs with
    | some ps => some (.tuple ps)
    | none => none
  | .ty _ => none
  | .ref _ => none
def pyDs : List D → Option (List PyData)
  | [] => some []
  | x :: xs => match pyD x, pyDs xs with
    | some p, some ps => some (p :: ps)
    | _, _ => none
end
mutual
theorem dp_of {K : PySem.W.Frag} {ρ : List Addr} {H : Hp} : ∀ {v : V} {d : D} {p : PyData}, DV K ρ H v d → pyD d = some p → Dp K H v p
  | _, _, _, .non, e => by cases e; exact .non
  | _, _, _, .bl b, e => by cases e; exact .bl b
  | _, _, _, .int i, e => by cases e; exact .int i
  | _, _, _, .str x, e => by cases e; exact .str x
  | _, _, _, .ty n, e => by cases e
  | _, _, p, .tup (ds := ds) hs r, e => by
    cases q : pyDs ds with
    | none => simp only [pyD, q] at e; cases e
    | some ps =>
      simp only [pyD, q] at e; cases e
      exact .tup hs (dps_of r q)
  | _, _, _, .ref _, e => by cases e
theorem dps_of {K : PySem.W.Frag} {ρ : List Addr} {H : Hp} : ∀ {vs : List V} {ds : List D} {ps : List PyData}, DVs K ρ H vs ds → pyDs ds = some ps → DpAll K H vs ps
  | _, _, _, .nil, e => by cases e; exact .nil
  | _, _, ps, .cons (d := d) (ds := ds) h r, e => by
    cases q1 : pyD d with
    | none => simp only [pyDs, q1] at e; cases e
    | some p =>
      cases q2 : pyDs ds with
      | none => simp only [pyDs, q1, q2] at e; cases e
      | some ps =>
        simp only [pyDs, q1, q2] at e; cases e
        exact .cons (dp_of h q1) (dps_of r q2)
end
/-- an expression's end as data to be compared -/
def pyR (r : R) (h : Hs) : Option PyData := match r with
  | .d (.ref j) => match lstOf (.d (.ref j)) h with
    | some xs => (pyDs xs).map PyData.list
    | none => none
  | .d x => pyD x
  | r => match seqOf r h with
    | some xs => (pyDs xs).map PyData.list
    | none => none
def eqR (a b : R) (h : Hs) : Option Bool := match pyR a h, pyR b h with
  | some x, some y => if SeqAt.shaped x = true ∧ SeqAt.shaped y = true then some (PyData.eqv x y) else none
  | _, _ => none
theorem pyR_of {p : Pm} {ρ : List Addr} {h : Hs} {Hb H : Hp} {v : V} {r : R} {d : PyData} (hr : HR p ρ h H) (q : RV p ρ Hb H v r) (e : pyR r h = some d) : Dp p.K H v d := by
  have lists : ∀ {xs : List D}, (∃ a vs, v = .ref a ∧ SqL p.K H a vs ∧ DVs p.K ρ H vs xs) → (pyDs xs).map PyData.list = some d → Dp p.K H v d := fun {xs} ⟨a, vs, e1, e2, e3⟩ e => by
    subst e1
    cases q : pyDs xs with
    | none => rw [q] at e; cases e
    | some ps => rw [q] at e; cases e; exact .lst e2 (dps_of e3 q)
  cases r with
  | d x =>
    cases x with
    | ref j =>
      simp only [pyR] at e
      cases ls : lstOf (.d (.ref j)) h with
      | none => rw [ls] at e; cases e
      | some xs =>
        rw [ls] at e
        obtain ⟨a, vs, e1, e2, e3⟩ := lst_of hr q ls
        exact lists ⟨a, vs, e1, SqL.of e2, e3⟩ e
    | _ => exact dp_of q e
  | new k =>
    simp only [pyR] at e
    cases k with
    | lst xs =>
      obtain ⟨a, rfl, _, _, vs, e1, e2⟩ := q
      exact lists ⟨a, vs, rfl, SqL.of e1, e2⟩ e
    | _ => cases e
  | bor k =>
    simp only [pyR] at e
    cases k with
    | lst xs =>
      obtain ⟨a, rfl, vs, e2, e1, _⟩ := q
      exact lists ⟨a, vs, rfl, SqL.of e1, e2⟩ e
    | dct xs => cases e
    | fz xs =>
      obtain ⟨a, rfl, vs, e2, e1 | ⟨⟨o, e1⟩, _⟩⟩ := q
      · exact lists ⟨a, vs, rfl, .inr e1, e2⟩ e
      · exact lists ⟨a, vs, rfl, .inl (.inr ⟨o, e1⟩), e2⟩ e
def gEq : P2f := fun a b h => (eqR a b h).map fun k => .d (.bl k)
def gNe : P2f := fun a b h => (eqR a b h).map fun k => .d (.bl (!k))
theorem eqR_of {p : Pm} {ρ : List Addr} {h : Hs} {Ha Hb H : Hp} {x y : V} {a b : R} {k : Bool} (hr : HR p ρ h H) (qa : RV p ρ Ha H x a) (qb : RV p ρ Hb H y b) (e : eqR a b h = some k) :
    ∃ d e, Dp p.K H x d ∧ Dp p.K H y e ∧ SeqAt.shaped d = true ∧ SeqAt.shaped e = true ∧ PyData.eqv d e = k := by
  unfold eqR at e
  cases e1 : pyR a h with
  | none => rw [e1] at e; cases e
  | some d1 =>
    cases e2 : pyR b h with
    | none => rw [e1, e2] at e; cases e
    | some d2 =>
      rw [e1, e2] at e
      simp only at e
      split at e
      · rename_i hs
        cases e
        exact ⟨d1, d2, pyR_of hr qa e1, pyR_of hr qb e2, hs.1, hs.2, rfl⟩
      · cases e
theorem p2_eq : P2 X c (rEqD X.K) gEq := by
  intro ρ h H Ha Hb x y a b Q hr tb qa qb e
  unfold gEq at e
  cases k : eqR a b h with
  | none => rw [k] at e; exact e.elim
  | some k' =>
    rw [k] at e
    obtain ⟨d1, d2, h1, h2, h3, h4, h5⟩ := eqR_of hr qa qb k
    exact ⟨d1, d2, h1, h2, h3, h4, by rw [h5]; exact fin_d hr tb e (.bl _)⟩
theorem p2_ne : P2 X c (rNeD X.K) gNe := by
  intro ρ h H Ha Hb x y a b Q hr tb qa qb e
  unfold gNe at e
  cases k : eqR a b h with
  | none => rw [k] at e; exact e.elim
  | some k' =>
    rw [k] at e
    obtain ⟨d1, d2, h1, h2, h3, h4, h5⟩ := eqR_of hr qa qb k
    exact ⟨d1, d2, h1, h2, h3, h4, by rw [h5]; exact fin_d hr tb e (.bl _)⟩

/-! ### in, not in -/
def flatD : D → Bool
  | .non => true
  | .bl _ => true
  | .int _ => true
  | .str _ => true
  | _ => false
def eqF : D → D → Bool
  | .non, .non => true
  | .bl a, .bl b => a == b
  | .bl a, .int b => (if a then 1 else 0) == b
  | .int a, .bl b => a == (if b then 1 else 0)
  | .int a, .int b => a == b
  | .str a, .str b => a == b
  | _, _ => false
def inD (x : D) (xs : List D) : Bool := xs.any fun y => eqF y x
def keyD : D → Option Key
  | .int i => some (.inl i)
  | .str x => some (.inr x)
  | _ => none
def dctOf (r : R) (h : Hs) : Option (List (Key × D)) := match r with
  | .new (.dct xs) => some xs
  | .bor (.dct xs) => some xs
  | .d (.ref j) => match h[j]? with
    | some (.dct xs) => some xs
    | _ => none
  | _ => none
def lookD (kd : List (Key × D)) (k : Key) : Option D := (kd.find? fun q => decide (q.1 = k)).map (·.2)
/-- is a in b -/
def inR (a b : R) (h : Hs) : Option Bool := match dctOf b h, strOf b with
  | some kd, _ => match a with
    | .d x => match keyD x with
      | some k => some (lookD kd k).isSome
      | none => none
    | _ => none
  | none, some z => match a with
    | .d (.str ⟨⟨[c]⟩⟩) => some (decide (c ∈ z.cps.toList))
    | _ => none
  | none, none => match a, seqOf b h with
    | .d x, some xs => if flatD x = true ∧ xs.all flatD = true then some (inD x xs) else none
    | _, _ => none
def gIn : P2f := fun a b h => (inR a b h).map fun k => .d (.bl k)
def gNotIn : P2f := fun a b h => (inR a b h).map fun k => .d (.bl (!k))
def rInD (neg : Bool) : R2 := fun x y H Q => ∃ a o, y = .ref a ∧ DGet H a x o ∧ Q (.bl (if neg then !o.isSome else o.isSome)) H
theorem op_inDict (hu : X.A.units + 1 < cLine) : OpR X (compareOp .In) (rInD false) := by
  intro pins s σ H x y v u Q I rx ry h
  obtain ⟨a, o, rfl, g, q⟩ := h
  obtain rfl : u = Value.ref a := ry
  exact d_in hu I g rx fun s3 I3 => ⟨.bl o.isSome, H, I3, rfl, q⟩
theorem op_notInDict (hu : X.A.units + 1 < cLine) : OpR X (compareOp .NotIn) (rInD true) := by
  intro pins s σ H x y v u Q I rx ry h
  obtain ⟨a, o, rfl, g, q⟩ := h
  obtain rfl : u = Value.ref a := ry
  exact d_notIn hu I g rx fun s3 I3 => ⟨.bl (!o.isSome), H, I3, rfl, q⟩
def rInA (K : PySem.W.Frag) : R2 := fun x y H Q => rInD false x y H Q ∨ rInS x y H Q ∨ rIn K false x y H Q
def rNotInA (K : PySem.W.Frag) : R2 := fun x y H Q => rInD true x y H Q ∨ rNotInS x y H Q ∨ rIn K true x y H Q
theorem op_inA (hu : X.A.units + 1 < cLine) : OpR X (compareOp .In) (rInA X.K) := (op_inDict hu).or (op_inS.or op_in_seq)
theorem op_notInA (hu : X.A.units + 1 < cLine) : OpR X (compareOp .NotIn) (rNotInA X.K) := (op_notInDict hu).or (op_notInS.or op_notIn_seq)
theorem flat_of {K : PySem.W.Frag} {ρ : List Addr} {H : Hp} {v : V} {d : D} (q : DV K ρ H v d) : flatV v = flatD d := by cases q <;> rfl
theorem flats_of {K : PySem.W.Frag} {ρ : List Addr} {H : Hp} : ∀ {vs : List V} {ds : List D}, DVs K ρ H vs ds → vs.all flatV = ds.all flatD
  | _, _, .nil => rfl
  | _, _, .cons h r => by rw [List.all_cons, List.all_cons, flat_of h, flats_of r]
theorem eqF_of {K : PySem.W.Frag} {ρ : List Addr} {H : Hp} {v w : V} {d e : D} (q : DV K ρ H v d) (r : DV K ρ H w e) : eqV v w = eqF d e := by
  cases q <;> cases r <;> rfl
theorem inD_of {K : PySem.W.Frag} {ρ : List Addr} {H : Hp} {v : V} {d : D} (q : DV K ρ H v d) : ∀ {vs : List V} {ds : List D}, DVs K ρ H vs ds → inV v vs = inD d ds
  | _, _, .nil => rfl
  | _, _, .cons h r => by
    show (eqV _ v || inV v _) = (eqF _ d || inD d _)
    rw [eqF_of h q, inD_of q r]
theorem dct_of {p : Pm} {ρ : List Addr} {h : Hs} {Hb H : Hp} {v : V} {r : R} {kd : List (Key × D)} (hr : HR p ρ h H) (q : RV p ρ Hb H v r) (e : dctOf r h = some kd) : ∃ a ks, v = .ref a ∧ H a = some (.dK ks) ∧ KD p.K ρ H ks kd := by
  cases r with
  | d x =>
    cases x with
    | ref j =>
      cases q with
      | ref hj =>
        simp only [dctOf] at e
        cases ho : h[j]? with
        | none => rw [ho] at e; cases e
        | some o =>
          rw [ho] at e
          have m := hr.ob j _ o hj ho
          cases o with
          | dct xs => cases e; obtain ⟨vs, e1, e2⟩ := m; exact ⟨_, vs, rfl, e1, e2⟩
          | _ => cases e
    | _ => cases e
  | new k =>
    obtain ⟨a, rfl, _, _, m⟩ := q
    cases k with
    | dct xs => cases e; obtain ⟨vs, e1, e2⟩ := m; exact ⟨a, vs, rfl, e1, e2⟩
    | _ => cases e
  | bor k =>
    obtain ⟨a, rfl, m⟩ := q
    cases k with
    | dct xs => cases e; obtain ⟨vs, e1, e2, _⟩ := m; exact ⟨a, vs, rfl, e2, e1⟩
    | _ => cases e
theorem look_of {K : PySem.W.Frag} {ρ : List Addr} {H : Hp} (k : Key) : ∀ {ks : List (Key × V)} {kd : List (Key × D)}, KD K ρ H ks kd →
    (∀ d, lookD kd k = some d → ∃ v, valV ks k = some v ∧ DV K ρ H v d) ∧ (lookD kd k = none → valV ks k = none)
  | [], [], _ => ⟨fun d e => by simp [lookD] at e, fun _ => by simp [valV]⟩
  | [], _ :: _, ⟨e, _⟩ => by simp at e
  | _ :: _, [], ⟨e, _⟩ => by simp at e
  | (k1, v1) :: ks, (k2, d2) :: kd, ⟨e, r⟩ => by
    simp only [List.map_cons, List.cons.injEq] at e
    obtain ⟨e1, e2⟩ := e
    subst e1
    cases r with
    | cons h r =>
      obtain ⟨i1, i2⟩ := look_of k (ks := ks) (kd := kd) ⟨e2, r⟩
      by_cases hk : k1 = k
      · subst hk
        refine ⟨fun d e => ?_, fun e => ?_⟩
        · simp [lookD] at e; subst e; exact ⟨v1, by simp [valV], h⟩
        · simp [lookD] at e
      · refine ⟨fun d e => ?_, fun e => ?_⟩
        · obtain ⟨v, h1, h2⟩ := i1 d (by simpa [lookD, hk] using e)
          exact ⟨v, by simpa [valV, hk] using h1, h2⟩
        · have := i2 (by simpa [lookD, hk] using e)
          simpa [valV, hk] using this
theorem key_of' {K : PySem.W.Frag} {ρ : List Addr} {H : Hp} {v : V} {d : D} {k : Key} (q : DV K ρ H v d) (e : keyD d = some k) : v = kV k := by
  cases q <;> cases e <;> rfl
theorem inR_of {p : Pm} {ρ : List Addr} {h : Hs} {Ha Hb H : Hp} {x y : V} {a b : R} {k : Bool} (hr : HR p ρ h H) (qa : RV p ρ Ha H x a) (qb : RV p ρ Hb H y b) (e : inR a b h = some k) :
    (∃ z o, y = .ref z ∧ DGet H z x o ∧ o.isSome = k) ∨ (∃ (n : Nat) (z : Str), x = .str ⟨#[n]⟩ ∧ y = .str z ∧ decide (n ∈ z.cps.toList) = k) ∨
    (∃ z xs, y = .ref z ∧ (SqL p.K H z xs ∨ SqT p.K H z xs) ∧ flatV x = true ∧ xs.all flatV = true ∧ inV x xs = k) := by
  unfold inR at e
  cases hd : dctOf b h with
  | some kd =>
    rw [hd] at e
    cases a with
    | d u =>
      simp only at e
      cases hk : keyD u with
      | none => rw [hk] at e; cases e
      | some ky =>
        rw [hk] at e; cases e
        obtain ⟨z, ks, rfl, h1, h2⟩ := dct_of hr qb hd
        have ex := key_of' qa hk
        subst ex
        refine .inl ⟨z, _, rfl, DGet.k h1, ?_⟩
        obtain ⟨i1, i2⟩ := look_of ky h2
        cases hl : lookD kd ky with
        | none => rw [i2 hl]; rfl
        | some w => obtain ⟨v, h3, _⟩ := i1 w hl; rw [h3]; rfl
    | _ => cases e
  | none =>
    rw [hd] at e
    cases hs : strOf b with
    | some z =>
      rw [hs] at e
      have ey := str_of qb hs
      subst ey
      simp only at e
      split at e
      · cases e
        cases qa
        exact .inr (.inl ⟨_, _, rfl, rfl, rfl⟩)
      · cases e
    | none =>
      rw [hs] at e
      cases a with
      | d u =>
        simp only at e
        cases hq : seqOf b h with
        | none => rw [hq] at e; cases e
        | some xs =>
          rw [hq] at e
          simp only at e
          split at e
          · rename_i hf
            cases e
            obtain ⟨z, vs, rfl, h1, h2⟩ := seq_of hr qb hq
            exact .inr (.inr ⟨z, vs, rfl, h1, by rw [flat_of qa]; exact hf.1, by rw [flats_of h2]; exact hf.2, inD_of qa h2⟩)
          · cases e
      | _ => cases e
theorem p2_in : P2 X c (rInA X.K) gIn := by
  intro ρ h H Ha Hb x y a b Q hr tb qa qb e
  unfold gIn at e
  cases k : inR a b h with
  | none => rw [k] at e; exact e.elim
  | some k' =>
    rw [k] at e
    have q := fin_d hr tb e (.bl k')
    rcases inR_of hr qa qb k with ⟨z, o, h1, h2, h3⟩ | ⟨n, z, h1, h2, h3⟩ | ⟨z, xs, h1, h2, h3, h4, h5⟩
    · exact .inl ⟨z, o, h1, h2, by rw [if_neg (by decide), h3]; exact q⟩
    · exact .inr (.inl ⟨n, z, h1, h2, by rw [h3]; exact q⟩)
    · exact .inr (.inr ⟨z, xs, h1, h2, h3, h4, by rw [if_neg (by decide), h5]; exact q⟩)
theorem p2_notIn : P2 X c (rNotInA X.K) gNotIn := by
  intro ρ h H Ha Hb x y a b Q hr tb qa qb e
  unfold gNotIn at e
  cases k : inR a b h with
  | none => rw [k] at e; exact e.elim
  | some k' =>
    rw [k] at e
    have q := fin_d hr tb e (.bl (!k'))
    rcases inR_of hr qa qb k with ⟨z, o, h1, h2, h3⟩ | ⟨n, z, h1, h2, h3⟩ | ⟨z, xs, h1, h2, h3, h4, h5⟩
    · exact .inl ⟨z, o, h1, h2, by rw [if_pos rfl, h3]; exact q⟩
    · exact .inr (.inl ⟨n, z, h1, h2, by rw [h3]; exact q⟩)
    · exact .inr (.inr ⟨z, xs, h1, h2, h3, h4, by rw [if_pos rfl, h5]; exact q⟩)
end
end Sh
set_option Elab.async false
set_option linter.all false
set_option maxRecDepth 100000
namespace Sh
open PySem PySem.Spec PyProof.Rows L2

section
variable {X : Cx} {c : Cc} {e a b : Expr} {fa fb : EX} {pos : Pos}
/-! ### subscripts -/
def gIx : P2f := fun a b h => match dctOf a h with
  | some kd => match b with
    | .d x => match keyD x with
      | some k => (lookD kd k).map R.d
      | none => none
    | _ => none
  | none => match seqOf a h, intOf b with
    | some xs, some i => (atI xs i).map R.d
    | none, some i => match strOf a with
      | some z => if z.length ≤ sizeLine then (atI z.cps.toList i).map fun n => .d (.str ⟨#[n]⟩) else none
      | none => none
    | _, _ => none
def rIxDc : R2 := fun x y H Q => ∃ p v, x = .ref p ∧ DGet H p y (some v) ∧ Q v H
theorem ix_dict (hu : X.A.units + 1 < cLine) : IxR X rIxDc := by
  intro value slice pins s σ H x y v u Q I rx ry h hs
  obtain ⟨p, r, rfl, g, q⟩ := h
  obtain rfl : v = Value.ref p := rx
  exact tail_any (dict_typeIs I g) PySem.F.slot_dict_getitem.lookup (d_getItem hu I g ry fun w' s3 I3 rw' => ⟨r, H, I3, rw', q⟩) hs
def rIxA (K : PySem.W.Frag) : R2 := fun x y H Q => rIxDc x y H Q ∨ rIx K x y H Q
theorem ix_any (hu : X.A.units + 1 < cLine) : IxR X (rIxA X.K) := (ix_dict hu).or ix_seq
theorem atI_of {K : PySem.W.Frag} {ρ : List Addr} {H : Hp} {vs : List V} {ds : List D} {i : Int} {d : D} (r : DVs K ρ H vs ds) (e : atI ds i = some d) : ∃ v, atI vs i = some v ∧ DV K ρ H v d := by
  unfold atI at e ⊢
  rw [r.length]
  cases hj : ixN ds.length i with
  | none => rw [hj] at e; cases e
  | some j =>
    rw [hj] at e
    exact r.get' e
theorem p2_ix : P2 X c (rIxA X.K) gIx := by
  intro ρ h H Ha Hb x y a b Q hr tb qa qb e
  unfold gIx at e
  cases hd : dctOf a h with
  | some kd =>
    rw [hd] at e
    cases b with
    | d u =>
      simp only at e
      cases hk : keyD u with
      | none => rw [hk] at e; exact e.elim
      | some ky =>
        rw [hk] at e
        simp only at e
        obtain ⟨z, ks, rfl, h1, h2⟩ := dct_of hr qa hd
        have ey := key_of' qb hk
        subst ey
        cases hl : lookD kd ky with
        | none => rw [hl] at e; exact e.elim
        | some w =>
          rw [hl] at e
          obtain ⟨v, h3, h4⟩ := (look_of ky h2).1 w hl
          exact .inl ⟨z, v, rfl, by rw [← h3]; exact DGet.k h1, fin_d hr tb e h4⟩
    | _ => exact e.elim
  | none =>
    rw [hd] at e
    cases hi : intOf b with
    | none => rw [hi] at e; cases hq : seqOf a h <;> (rw [hq] at e; exact e.elim)
    | some i =>
      rw [hi] at e
      have ey := int_of qb hi
      subst ey
      cases hq : seqOf a h with
      | some xs =>
        rw [hq] at e
        simp only at e
        obtain ⟨z, vs, rfl, h1, h2⟩ := seq_of hr qa hq
        cases ha : atI xs i with
        | none => rw [ha] at e; exact e.elim
        | some w =>
          rw [ha] at e
          obtain ⟨v, h3, h4⟩ := atI_of h2 ha
          have q := fin_d hr tb e h4
          rcases h1 with h1 | h1
          · exact .inr (.inl ⟨z, vs, i, v, rfl, rfl, h1, h3, q⟩)
          · exact .inr (.inr (.inl ⟨z, vs, i, v, rfl, rfl, h1, h3, q⟩))
      | none =>
        rw [hq] at e
        simp only at e
        cases hs : strOf a with
        | none => rw [hs] at e; exact e.elim
        | some z =>
          rw [hs] at e
          have ex := str_of qa hs
          subst ex
          simp only at e
          split at e
          · cases ha : atI z.cps.toList i with
            | none => rw [ha] at e; exact e.elim
            | some w =>
              rw [ha] at e
              exact .inr (.inr (.inr ⟨z, i, w, rfl, rfl, by assumption, ha, fin_d hr tb e (.str _)⟩))
          · exact e.elim

/-! ### slices -/
def cutD (xs : List D) (lo hi : Option Int) : List D := (xs.drop (HT.sIx xs.length 0 lo)).take (HT.sIx xs.length xs.length hi - HT.sIx xs.length 0 lo)
theorem cut_of {K : PySem.W.Frag} {ρ : List Addr} {H : Hp} {vs : List V} {ds : List D} (r : DVs K ρ H vs ds) (lo hi : Option Int) : DVs K ρ H (cutV vs lo hi) (cutD ds lo hi) := by
  unfold cutV cutD
  rw [r.length]
  exact (r.drop _).take _
def gSl (a : R) (lo hi : Option Int) (h : Hs) : Option R := match lstOf a h, tupOf a, strOf a with
  | some xs, _, _ => some (.new (.lst (cutD xs lo hi)))
  | none, some xs, _ => some (.d (.tup (cutD xs lo hi)))
  | none, none, some z => if z.length ≤ sizeLine then some (.d (.str (cutS z lo hi))) else none
  | _, _, _ => none
def rSlAll (K : PySem.W.Frag) : V → Option Int → Option Int → Hp → VK → Prop := fun x lo hi H Q => rSlL K x lo hi H Q ∨ rSlA K x lo hi H Q ∨ rSlS x lo hi H Q
theorem sl_all : SlR X (rSlAll X.K) := sl_list.or (sl_tupA.or sl_str)
theorem cut_whole {xs : List D} {lo hi : Option Int} (h : HT.sIx xs.length 0 lo = 0 ∧ HT.sIx xs.length xs.length hi = xs.length) : cutD xs lo hi = xs := by
  unfold cutD
  rw [h.1, h.2]
  simp
theorem psl : ∀ ρ h H Ha x a lo hi Q, HR (c.p X.K) ρ h H → LamX.Tabs c.T H → RV (c.p X.K) ρ Ha H x a → Fin' (c.p X.K) ρ h H (gSl a lo hi h) Q → rSlAll X.K x lo hi H Q := by
  intro ρ h H Ha x a lo hi Q hr tb qa e
  unfold gSl at e
  cases hl : lstOf a h with
  | some xs =>
    rw [hl] at e
    obtain ⟨z, vs, rfl, h1, h2⟩ := lst_of hr qa hl
    exact .inl ⟨z, vs, rfl, SqL.of h1, fun p hp => new_lst hr tb (cut_of h2 lo hi) hp e⟩
  | none =>
    rw [hl] at e
    cases ht : tupOf a with
    | some xs =>
      rw [ht] at e
      obtain ⟨z, vs, rfl, h1, h2⟩ := tup_of qa ht
      refine .inr (.inl ⟨z, vs, rfl, h1, fun hw => ?_, fun _ p hp => new_tup hr tb (cut_of h2 lo hi) hp e⟩)
      rw [h2.length] at hw
      have e : Fin' (c.p X.K) ρ h H (some (.d (.tup (cutD xs lo hi)))) Q := e
      rw [cut_whole hw] at e
      exact fin_d hr tb e (.tup h1 h2)
    | none =>
      rw [ht] at e
      cases hs : strOf a with
      | none => rw [hs] at e; exact e.elim
      | some z =>
        rw [hs] at e
        have ex := str_of qa hs
        subst ex
        simp only at e
        split at e
        · exact .inr (.inr ⟨z, rfl, by assumption, fin_d hr tb e (.str _)⟩)
        · exact e.elim
/-- a part of a slice -/
abbrev OX := Env' → Hs → Option (Rs (Option Int))
abbrev Oq : List Addr → Hp → Hp → Option Int → Option Int → Prop := fun _ _ _ b a => b = a
def tO (K : PySem.W.Frag) (c : Cc) (f : OX) : TO := fun σ H Q => ∃ G ρ S h, Stt (c.p K) c.ρ0 c.H0 G ρ S h σ H ∧ Ed (c.p K) (fun cls d H' => c.W cls d σ H') ρ H (f S h) Oq Q
abbrev CO (X : Cx) (c : Cc) (e : Option Expr) (f : OX) : Prop := PO X e (tO X.K c f)
def oNone : OX := fun _ h => some (.ok none h)
def oSome (f : EX) : OX := fun S h => andThen (f S h) fun r h1 => match intOf r with
  | some i => some (.ok (some i) h1)
  | none => none
theorem po_weak {e : Option Expr} {t t' : TO} (he : PO X e t) (h : ∀ σ H Q, t' σ H Q → t σ H Q) : PO X e t' := by
  refine ⟨?_⟩
  intro pins s σ H Q I q
  exact he.run pins s σ H Q I (h σ H Q q)
theorem co_none : CO X c none oNone := by
  refine po_weak po_none fun σ H Q q => ?_
  obtain ⟨G, ρ, S, h, s, e⟩ := q
  exact e ρ H none (.refl s.hr s.tb) rfl
theorem co_some {f : EX} (he : CE X c e f) : CO X c (some e) (oSome f) := by
  refine po_weak (po_some he) fun σ H Q q => ?_
  obtain ⟨G, ρ, S, h, s, e⟩ := q
  refine ⟨G, ρ, S, h, s, e.bind (rel := RV (c.p X.K)) fun r h1 ρ1 H1 x n1 rx e1 => ?_⟩
  cases hi : intOf r with
  | none => rw [hi] at e1; exact e1.elim
  | some i => rw [hi] at e1; exact ⟨i, int_of rx hi, e1 ρ1 H1 (some i) n1 rfl⟩
def xSl (f : EX) (lo hi : OX) : EX := fun S h => andThen (f S h) fun a h1 => andThen (lo S h1) fun l h2 => andThen (hi S h2) fun u h3 => lift (gSl a l u h3) h3
theorem ce_slice {lo hi : Option Expr} {p2 : Pos} {f : EX} {fl fh : OX} (he : CE X c e f) (hl : CO X c lo fl) (hh : CO X c hi fh) : CE X c (.Subscript e (.Slice lo hi none p2) pos) (xSl f fl fh) := by
  refine pe_weak (pe_slice sl_all he hl hh) fun σ H Q q => ?_
  obtain ⟨G, ρ, S, h, s, e⟩ := q
  refine ⟨G, ρ, S, h, s, e.bind (rel := RV (c.p X.K)) fun a h1 ρ1 H1 x n1 rx e1 => ?_⟩
  refine ⟨G, ρ1, S, h1, s.nx n1, e1.bindAt n1 (rel := Oq) fun l h2 ρ2 H2 y n2 ry e2 => ?_⟩
  have n12 := n1.trans n2
  refine ⟨G, ρ2, S, h2, s.nx n12, e2.bindAt n12 (rel := Oq) fun u h3 ρ3 H3 z n3 rz e3 => ?_⟩
  cases ry
  cases rz
  have n := n12.trans n3
  exact psl ρ3 h3 H3 _ x a l u Q n.hr n.tb ((rx.nx n2 n1.hr).nx n3 n2.hr) (e3.later n fun _ _ _ _ z => z.back n s.hr).fin

/-! ### calls of what is built in -/
abbrev PNf := List R → Hs → Option R
def PN (X : Cx) (c : Cc) (r : List V → Hp → VK → Prop) (g : PNf) : Prop := ∀ ρ h H Ha vs rs Q, HR (c.p X.K) ρ h H → LamX.Tabs c.T H → RVs (c.p X.K) ρ Ha H vs rs → Fin' (c.p X.K) ρ h H (g rs h) Q → r vs H Q
def opN (g : PNf) (f : AX) : EX := fun S h => andThen (f S h) fun rs h1 => lift (g rs h1) h1
theorem tE_cb {r : List V → Hp → VK → Prop} {g : PNf} {f : AX} (hp : PN X c r g) (σ : L2.St) (H : Hp) (Q : VK) (q : tE X.K c (opN g f) σ H Q) : tCB r (tA X.K c f) σ H Q := by
  obtain ⟨G, ρ, S, h, s, e⟩ := q
  refine ⟨G, ρ, S, h, s, e.bind (rel := RVs (c.p X.K)) fun rs h1 ρ1 H1 xs n1 rx e1 => ?_⟩
  exact hp ρ1 h1 H1 _ xs rs Q n1.hr n1.tb rx (e1.later n1 fun _ _ _ _ z => z.back n1 s.hr).fin
theorem ce_callB {x : Str} {p : Pos} {id : String} {es : List Expr} {r : List V → Hp → VK → Prop} {g : PNf} {f : AX} (hc : CallR X (.builtin id) r) (hp : PN X c r g) (hg : Gl X x) (hm : X.mg x = none) (hv : bootBuiltins x = some (.builtin id)) (ha : CA X c (e :: es) f) (hn : x ≠ "__name__" := by decide)
    (hdb : (x == ("__debug__" : Str)) = false := by decide) (he : starEach (e :: es) X.env = (false, eval e X.env) :: starEach es X.env := by rfl) (hpl : (backTo pos (starEach es X.env)).any (·.1) = false := by rfl) : CE X c (.Call (.Name x p) (e :: es) [] pos) (opN g f) :=
  pe_weak (pe_callB hc hg hm hv ha hn hdb he hpl) (tE_cb hp)
theorem ce_callTy {x : Str} {p : Pos} {T : String} {es : List Expr} {r : List V → Hp → VK → Prop} {g : PNf} {f : AX} (hc : CallR X (.type T) r) (hp : PN X c r g) (hg : Gl X x) (hm : X.mg x = none) (hv : bootBuiltins x = some (.type T)) (ha : CA X c (e :: es) f) (hn : x ≠ "__name__" := by decide)
    (hdb : (x == ("__debug__" : Str)) = false := by decide) (he : starEach (e :: es) X.env = (false, eval e X.env) :: starEach es X.env := by rfl) (hpl : (backTo pos (starEach es X.env)).any (·.1) = false := by rfl) : CE X c (.Call (.Name x p) (e :: es) [] pos) (opN g f) :=
  pe_weak (pe_callTy hc hg hm hv ha hn hdb he hpl) (tE_cb hp)

theorem RVs.one {p : Pm} {ρ : List Addr} {Hb H : Hp} {vs : List V} {r : R} (q : RVs p ρ Hb H vs [r]) : ∃ v, vs = [v] ∧ RV p ρ Hb H v r := by
  cases q with
  | cons h t => cases t; exact ⟨_, rfl, h⟩
theorem RVs.two {p : Pm} {ρ : List Addr} {Hb H : Hp} {vs : List V} {r r' : R} (q : RVs p ρ Hb H vs [r, r']) : ∃ v w, vs = [v, w] ∧ RV p ρ Hb H v r ∧ RV p ρ Hb H w r' := by
  cases q with
  | cons h t => obtain ⟨w, rfl, h2⟩ := RVs.one t; exact ⟨_, w, rfl, h, h2⟩
/-- a prim of one argument -/
def g1 (g : R → Hs → Option R) : PNf := fun rs h => match rs with
  | [a] => g a h
  | _ => none
theorem pn1 {r : List V → Hp → VK → Prop} {g : R → Hs → Option R} (hp : ∀ ρ h H Ha v a Q, HR (c.p X.K) ρ h H → LamX.Tabs c.T H → RV (c.p X.K) ρ Ha H v a → Fin' (c.p X.K) ρ h H (g a h) Q → r [v] H Q) : PN X c r (g1 g) := by
  intro ρ h H Ha vs rs Q hr tb q e
  cases rs with
  | nil => exact e.elim
  | cons a rs =>
    cases rs with
    | nil =>
      obtain ⟨v, ev, q1⟩ := q.one
      subst ev
      exact hp ρ h H Ha v a Q hr tb q1 e
    | cons _ _ => exact e.elim
def g2 (g : R → R → Hs → Option R) : PNf := fun rs h => match rs with
  | [a, b] => g a b h
  | _ => none
theorem pn2 {r : List V → Hp → VK → Prop} {g : R → R → Hs → Option R} (hp : ∀ ρ h H Ha v w a b Q, HR (c.p X.K) ρ h H → LamX.Tabs c.T H → RV (c.p X.K) ρ Ha H v a → RV (c.p X.K) ρ Ha H w b → Fin' (c.p X.K) ρ h H (g a b h) Q → r [v, w] H Q) : PN X c r (g2 g) := by
  intro ρ h H Ha vs rs Q hr tb q e
  cases rs with
  | nil => exact e.elim
  | cons a rs =>
    cases rs with
    | nil => exact e.elim
    | cons b rs =>
      cases rs with
      | nil =>
        obtain ⟨v, w, rfl, q1, q2⟩ := q.two
        exact hp ρ h H Ha v w a b Q hr tb q1 q2 e
      | cons _ _ => exact e.elim
/-- len -/
def gLen (a : R) (h : Hs) : Option R := match dctOf a h, seqOf a h, strOf a with
  | some kd, _, _ => some (.d (.int kd.length))
  | none, some xs, _ => some (.d (.int xs.length))
  | none, none, some z => if z.length ≤ sizeLine then some (.d (.int z.length)) else none
  | _, _, _ => none
def rLenA (K : PySem.W.Frag) : List V → Hp → VK → Prop := fun xs H Q => (∃ a kvs, xs = [V.ref a] ∧ H a = some (.dK kvs) ∧ Q (.int kvs.length) H) ∨ (∃ x n, xs = [x] ∧ LenV K x H n ∧ Q (.int n) H)
theorem call_lenA : CallR X (.builtin "len") (rLenA X.K) := call_lenD.or call_len
theorem KD.length {K : PySem.W.Frag} {ρ : List Addr} {H : Hp} {ks : List (Key × V)} {kd : List (Key × D)} (r : KD K ρ H ks kd) : ks.length = kd.length := by
  have := congrArg List.length r.1
  simpa using this
theorem pn_len : PN X c (rLenA X.K) (g1 gLen) := pn1 fun ρ h H Ha v a Q hr tb q e => by
  unfold gLen at e
  cases hd : dctOf a h with
  | some kd =>
    rw [hd] at e
    obtain ⟨z, ks, rfl, h1, h2⟩ := dct_of hr q hd
    exact .inl ⟨z, ks, rfl, h1, by rw [h2.length]; exact fin_d hr tb e (.int _)⟩
  | none =>
    rw [hd] at e
    cases hq : seqOf a h with
    | some xs =>
      rw [hq] at e
      obtain ⟨z, vs, rfl, h1, h2⟩ := seq_of hr q hq
      refine .inr ⟨_, vs.length, rfl, ?_, by rw [h2.length]; exact fin_d hr tb e (.int _)⟩
      rcases h1 with h1 | h1
      · exact .inl ⟨vs, h1, rfl⟩
      · exact .inr ⟨vs, h1, rfl⟩
    | none =>
      rw [hq] at e
      cases hs : strOf a with
      | none => rw [hs] at e; exact e.elim
      | some z =>
        rw [hs] at e
        have ex := str_of q hs
        subst ex
        simp only at e
        split at e
        · exact .inr ⟨_, _, rfl, ⟨by assumption, rfl⟩, fin_d hr tb e (.int _)⟩
        · exact e.elim
/-- int, abs -/
def gInt (a : R) (_ : Hs) : Option R := match a with
  | .d (.int i) => some (.d (.int i))
  | .d (.bl b) => some (.d (.int (if b then 1 else 0)))
  | _ => none
theorem pn_int : PN X c (fun xs H Q => (∃ i, xs = [.int i] ∧ Q (.int i) H) ∨ ∃ k, xs = [.bl k] ∧ Q (.int (if k then 1 else 0)) H) (g1 gInt) := pn1 fun ρ h H Ha v a Q hr tb q e => by
  unfold gInt at e
  cases a with
  | d x =>
    cases x with
    | int i => cases q; exact .inl ⟨i, rfl, fin_d hr tb e (.int _)⟩
    | bl i => cases q; exact .inr ⟨i, rfl, fin_d hr tb e (.int _)⟩
    | _ => exact e.elim
  | _ => exact e.elim
def gAbs (a : R) (_ : Hs) : Option R := match intOf a with
  | some i => some (.d (.int (if i < 0 then -i else i)))
  | none => none
theorem pn_abs : PN X c (fun xs H Q => ∃ i, xs = [.int i] ∧ Q (.int (if i < 0 then -i else i)) H) (g1 gAbs) := pn1 fun ρ h H Ha v a Q hr tb q e => by
  unfold gAbs at e
  cases hi : intOf a with
  | none => rw [hi] at e; exact e.elim
  | some i => rw [hi] at e; exact ⟨i, by rw [int_of q hi], fin_d hr tb e (.int _)⟩
def gStr (a : R) (_ : Hs) : Option R := match intOf a with
  | some i => if i.natAbs.log2 < 1920 then some (.d (.str (toString i))) else none
  | none => none
theorem pn_str : PN X c (fun xs H Q => ∃ i : Int, xs = [.int i] ∧ i.natAbs.log2 < 1920 ∧ Q (.str (toString i)) H) (g1 gStr) := pn1 fun ρ h H Ha v a Q hr tb q e => by
  unfold gStr at e
  cases hi : intOf a with
  | none => rw [hi] at e; exact e.elim
  | some i =>
    rw [hi] at e
    simp only at e
    split at e
    · exact ⟨i, by rw [int_of q hi], by assumption, fin_d hr tb e (.str _)⟩
    · exact e.elim
/-- type -/
def tyR (a : R) (h : Hs) : Option String := match a with
  | .d .non => some "NoneType"
  | .d (.bl _) => some "bool"
  | .d (.int _) => some "int"
  | .d (.str _) => some "str"
  | .d (.tup _) => some "tuple"
  | a => match dctOf a h, seqOf a h with
    | some _, _ => some "dict"
    | none, some _ => some "list"
    | _, _ => none
theorem ty_of {p : Pm} {ρ : List Addr} {h : Hs} {Hb H : Hp} {v : V} {r : R} {T : String} (hr : HR p ρ h H) (q : RV p ρ Hb H v r) (e : tyR r h = some T) : TyB p.K H v T := by
  have rest : (∀ xs, r ≠ .d (.tup xs)) → (match dctOf r h, seqOf r h with
    | some _, _ => some "dict"
    | none, some _ => some "list"
    | _, _ => none) = some T → TyB p.K H v T := fun nt e => by
    cases hd : dctOf r h with
    | some kd =>
      rw [hd] at e
      obtain ⟨z, ks, rfl, h1, h2⟩ := dct_of hr q hd
      cases e
      exact .dK h1
    | none =>
      rw [hd] at e
      cases hq : seqOf r h with
      | none => rw [hq] at e; cases e
      | some xs =>
        rw [hq] at e
        cases e
        cases hl : lstOf r h with
        | some ys =>
          obtain ⟨z, vs, rfl, h1, h2⟩ := lst_of hr q hl
          exact .lst (SqL.of h1)
        | none =>
          cases r with
          | d x =>
            cases x with
            | tup xs => exact absurd rfl (nt xs)
            | ref j => rw [show seqOf (.d (.ref j)) h = lstOf (.d (.ref j)) h from rfl, hl] at hq; cases hq
            | _ => cases hq
          | new k => rw [show seqOf (.new k) h = lstOf (.new k) h from rfl, hl] at hq; cases hq
          | bor k =>
            cases k with
            | fz ys =>
              obtain ⟨a, rfl, vs, e1, e2 | ⟨⟨o, e2⟩, _⟩⟩ := q
              · exact .lst (.inr e2)
              · exact .lst (.inl (.inr ⟨o, e2⟩))
            | lst ys => cases hl
            | dct ys => cases hd
  cases r with
  | d x =>
    cases x with
    | non => cases e; cases q; exact .non
    | bl b => cases e; cases q; exact .bl b
    | int b => cases e; cases q; exact .int b
    | str b => cases e; cases q; exact .str b
    | tup xs => cases e; obtain ⟨z, vs, rfl, h1, h2⟩ := tup_of q rfl; exact .tup h1
    | ty n => exact rest (fun _ z => by cases z) e
    | ref j => exact rest (fun _ z => by cases z) e
  | new k => exact rest (fun _ z => by cases z) e
  | bor k => exact rest (fun _ z => by cases z) e
def gTy (a : R) (h : Hs) : Option R := match tyR a h with
  | some T => some (.d (.ty T))
  | none => none
theorem pn_type : PN X c (rTyp X.K) (g1 gTy) := pn1 fun ρ h H Ha v a Q hr tb q e => by
  unfold gTy at e
  cases ht : tyR a h with
  | none => rw [ht] at e; exact e.elim
  | some T => rw [ht] at e; exact ⟨v, T, rfl, ty_of hr q ht, fin_d hr tb e (.ty _)⟩
/-- isinstance of a built-in type -/
def gIsi (a b : R) (h : Hs) : Option R := match tyR a h, b with
  | some T, .d (.ty n) => (kitB T n).map fun k => .d (.bl k)
  | _, _ => none
theorem tyx_of {K : PySem.W.Frag} {H : Hp} {v : V} {T : String} (t : TyB K H v T) : TyX K H v (.type T) := by
  cases t with
  | non => exact .base .non
  | bl b => exact .base (.bl b)
  | int b => exact .base (.int b)
  | str b => exact .base (.str b)
  | byt b => exact .byt b
  | lst h =>
    rcases h with (h | ⟨o, h⟩) | ⟨o, its, n, e, c, _⟩
    · exact .base (.lst h)
    · exact .base (.frz h)
    · exact .kList e c
  | tup h =>
    rcases h with (h | ⟨o, h⟩) | ⟨o, its, n, e, c, _⟩
    · exact .base (.tup h)
    · exact .fTuple h
    · exact .kTuple e c
  | dK h => exact .base (.dK h)
theorem pn_isi : PN X c (rIsi X.K) (g2 gIsi) := pn2 fun ρ h H Ha v w a b Q hr tb q1 q2 e => by
  unfold gIsi at e
  cases ht : tyR a h with
  | none => rw [ht] at e; exact e.elim
  | some T =>
    rw [ht] at e
    cases b with
    | d x =>
      cases x with
      | ty n =>
        simp only at e
        cases hk : kitB T n with
        | none => rw [hk] at e; exact e.elim
        | some k =>
          rw [hk] at e
          cases q2
          exact ⟨v, _, _, _, k, rfl, .ty n, tyx_of (ty_of hr q1 ht), kit_ty hk, fin_d hr tb e (.bl _)⟩
      | _ => exact e.elim
    | _ => exact e.elim
/-- a built-in type as a value -/
theorem ce_ty {x : Str} {T : String} (hg : Gl X x) (hm : X.mg x = none) (hv : bootBuiltins x = some (.type T)) (hn : x ≠ "__name__" := by decide) (hd : (x == ("__debug__" : Str)) = false := by decide) : CE X c (.Name x pos) (xC (.ty T)) :=
  ce_const (pe_bltn hg hm hv (v := .ty T) rfl hn hd) fun _ _ => .ty T
/-- a constant of the module -/
theorem ce_glob {x : Str} {v : V} {u : Value} {d : D} (hg : Gl X x) (hm : X.mg x = some u) (r : RelV v u) (hv : ∀ ρ H, DV X.K ρ H v d) (hd : (x == ("__debug__" : Str)) = false := by decide) : CE X c (.Name x pos) (xC d) := ce_const (pe_glob hg hm r hd) hv
/-- tuple(x), list(x) -/
def gTuple (a : R) (h : Hs) : Option R := match seqOf a h with
  | some xs => some (.d (.tup xs))
  | none => none
def gList (a : R) (h : Hs) : Option R := match seqOf a h with
  | some xs => some (.new (.lst xs))
  | none => none
theorem pn_tuple : PN X c (fun xs H Q => ∃ p ys, xs = [.ref p] ∧ ((SqL X.K H p ys ∧ ∀ l, H l = none → Q (.ref l) (upd H l (.tup ys))) ∨ (SqT X.K H p ys ∧ Q (.ref p) H))) (g1 gTuple) := pn1 fun ρ h H Ha v a Q hr tb q e => by
  unfold gTuple at e
  cases hq : seqOf a h with
  | none => rw [hq] at e; exact e.elim
  | some xs =>
    rw [hq] at e
    obtain ⟨z, vs, rfl, h1, h2⟩ := seq_of hr q hq
    refine ⟨z, vs, rfl, ?_⟩
    rcases h1 with h1 | h1
    · exact .inl ⟨h1, fun l hl => new_tup hr tb h2 hl e⟩
    · exact .inr ⟨h1, fin_d hr tb e (.tup h1 h2)⟩
theorem pn_list : PN X c (fun xs H Q => ∃ p ys, xs = [.ref p] ∧ (SqL X.K H p ys ∨ SqT X.K H p ys) ∧ ∀ l, H l = none → Q (.ref l) (upd H l (.lst ys))) (g1 gList) := pn1 fun ρ h H Ha v a Q hr tb q e => by
  unfold gList at e
  cases hq : seqOf a h with
  | none => rw [hq] at e; exact e.elim
  | some xs =>
    rw [hq] at e
    obtain ⟨z, vs, rfl, h1, h2⟩ := seq_of hr q hq
    exact ⟨z, vs, rfl, h1, fun l hl => new_lst hr tb h2 hl e⟩
/-- x.m(e), x a text -/
def opM1 (g : Str → R → Hs → Option R) (fo fe : EX) : EX := fun S h => andThen (fo S h) fun a h1 => match strOf a with
  | some z => andThen (fe S h1) fun b h2 => lift (g z b h2) h2
  | none => none
theorem ce_m1 {id : String} {name : Str} {apos pos : Pos} {o : Expr} {fo fe : EX} {r : V → List V → Hp → VK → Prop} {g : Str → R → Hs → Option R} (slot : Slot "str" name id) (ty : typeOf (.builtin id) = pure (.type "method_descriptor")) (rule : MtR X id r)
    (hp : ∀ ρ h H Ha z v a Q, HR (c.p X.K) ρ h H → LamX.Tabs c.T H → RV (c.p X.K) ρ Ha H v a → Fin' (c.p X.K) ρ h H (g z a h) Q → r (.str z) [v] H Q) (ho : CE X c o fo) (he : CE X c e fe)
    (hs : starEach [e] X.env = [(false, eval e X.env)] := by rfl) (hbase : attributeBase o name X.env (eval o X.env) = eval o X.env := by rfl) (hline : (apos.endLine == pos.line) = true := by rfl) :
    CE X c (.Call (.Attribute o name apos) [e] [] pos) (opM1 g fo fe) := by
  refine pe_weak (pe_m1 slot ty rule ho he hs hbase hline) fun σ H Q q => ?_
  obtain ⟨G, ρ, S, h, s, e⟩ := q
  refine ⟨G, ρ, S, h, s, e.bind (rel := RV (c.p X.K)) fun a h1 ρ1 H1 x n1 rx e1 => ?_⟩
  cases hz : strOf a with
  | none => simp only [hz] at e1; exact e1.elim
  | some z =>
    have ex := str_of rx hz
    subst ex
    simp only [hz] at e1
    refine ⟨⟨z, rfl⟩, G, ρ1, S, h1, s.nx n1, e1.bindAt n1 (rel := RV (c.p X.K)) fun b h2 ρ2 H2 y n2 ry e2 => ?_⟩
    have n := n1.trans n2
    exact hp ρ2 h2 H2 _ z y b Q n.hr n.tb ry (e2.later n fun _ _ _ _ z => z.back n s.hr).fin
/-- sep.join(texts) -/
def strsD : List D → Option (List Str)
  | [] => some []
  | .str x :: xs => match strsD xs with
    | some ys => some (x :: ys)
    | none => none
  | _ :: _ => none
theorem strs_of {K : PySem.W.Frag} {ρ : List Addr} {H : Hp} : ∀ {vs : List V} {ds : List D} {ys : List Str}, DVs K ρ H vs ds → strsD ds = some ys → vs = ys.map V.str
  | _, _, _, .nil, e => by cases e; rfl
  | _, _, ys, .cons (d := d) (ds := ds) h r, e => by
    cases d with
    | str x =>
      cases q : strsD ds with
      | none => simp only [strsD, q] at e; cases e
      | some zs =>
        simp only [strsD, q] at e; cases e
        cases h
        rw [strs_of r q]; rfl
    | _ => cases e
def gJoin (z : Str) (a : R) (h : Hs) : Option R := match seqOf a h with
  | some xs => match strsD xs with
    | some ys => if (ys.map (·.length)).sum + ys.length * z.length ≤ 16777216 then some (.d (.str (Txt.join z ys))) else none
    | none => none
  | none => none
theorem m_join : ∀ ρ h H Ha z v a Q, HR (c.p X.K) ρ h H → LamX.Tabs c.T H → RV (c.p X.K) ρ Ha H v a → Fin' (c.p X.K) ρ h H (gJoin z a h) Q →
    (fun (x : V) (xs : List V) (H : Hp) (Q : VK) => ∃ a p, ∃ ys : List Str, x = .str a ∧ xs = [.ref p] ∧ (SqL X.K H p (ys.map V.str) ∨ SqT X.K H p (ys.map V.str)) ∧ (ys.map (·.length)).sum + ys.length * a.length ≤ 16777216 ∧ Q (.str (Txt.join a ys)) H) (.str z) [v] H Q := by
  intro ρ h H Ha z v a Q hr tb q e
  unfold gJoin at e
  cases hq : seqOf a h with
  | none => rw [hq] at e; exact e.elim
  | some xs =>
    rw [hq] at e
    simp only at e
    cases hs : strsD xs with
    | none => rw [hs] at e; exact e.elim
    | some ys =>
      rw [hs] at e
      simp only at e
      split at e
      · obtain ⟨w, vs, rfl, h1, h2⟩ := seq_of hr q hq
        have ev := strs_of h2 hs
        subst ev
        exact ⟨z, w, ys, rfl, rfl, h1, by assumption, fin_d hr tb e (.str _)⟩
      · exact e.elim
/-- z.index(sign) -/
def gSIndex (z : Str) (a : R) (_ : Hs) : Option R := match strOf a with
  | some b => match Builtin.Str.occurrences z b 0 z.length 1 with
    | i :: _ => some (.d (.int (i : Nat)))
    | [] => none
  | none => none
theorem m_sindex : ∀ ρ h H Ha z v a Q, HR (c.p X.K) ρ h H → LamX.Tabs c.T H → RV (c.p X.K) ρ Ha H v a → Fin' (c.p X.K) ρ h H (gSIndex z a h) Q →
    (fun (x : V) (xs : List V) (H : Hp) (Q : VK) => ∃ a b i rest, x = .str a ∧ xs = [.str b] ∧ Builtin.Str.occurrences a b 0 a.length 1 = i :: rest ∧ Q (.int (i : Nat)) H) (.str z) [v] H Q := by
  intro ρ h H Ha z v a Q hr tb q e
  unfold gSIndex at e
  cases hb : strOf a with
  | none => rw [hb] at e; exact e.elim
  | some b =>
    rw [hb] at e
    have ev := str_of q hb
    subst ev
    simp only at e
    cases ho : Builtin.Str.occurrences z b 0 z.length 1 with
    | nil => rw [ho] at e; exact e.elim
    | cons i rest => rw [ho] at e; exact ⟨z, b, i, rest, rfl, rfl, ho, fin_d hr tb e (.int _)⟩
end
end Sh
set_option Elab.async false
set_option linter.all false
set_option maxRecDepth 100000
namespace Sh
open PySem PySem.Spec PyProof.Rows L2

/-! ### statements: from one moment to a later one -/
/-- tuples stay, numbers stay -/
structure Lt (K : PySem.W.Frag) (ρ : List Addr) (H : Hp) (ρ' : List Addr) (H' : Hp) : Prop where
  pre : ρ <+: ρ'
  tup : ∀ a vs, SqT K H a vs → SqT K H' a vs
section
variable {K : PySem.W.Frag} {p : Pm} {ρ ρ1 ρ2 ρ0 : List Addr} {G G' : List (Addr × HO)} {S S' : Env'} {σ : L2.St} {h h1 : Hs} {H H1 H2 H0 : Hp}
theorem Lt.refl : Lt K ρ H ρ H := ⟨List.prefix_refl _, fun _ _ e => e⟩
theorem Lt.trans (a : Lt K ρ H ρ1 H1) (b : Lt K ρ1 H1 ρ2 H2) : Lt K ρ H ρ2 H2 := ⟨a.pre.trans b.pre, fun x vs e => b.tup x vs (a.tup x vs e)⟩
theorem Lt.dv (a : Lt K ρ H ρ1 H1) {v : V} {d : D} (q : DV K ρ H v d) : DV K ρ1 H1 v d := q.mono a.tup fun _ _ z => pre_get a.pre z
theorem Lt.dvs (a : Lt K ρ H ρ1 H1) {v : List V} {d : List D} (q : DVs K ρ H v d) : DVs K ρ1 H1 v d := q.mono a.tup fun _ _ z => pre_get a.pre z
theorem Nx.lt (n : Nx p ρ H ρ1 h1 H1) (hr : HR p ρ h H) : Lt p.K ρ H ρ1 H1 := ⟨n.pre, fun _ _ e => n.tup hr e⟩
/-- what the def has done as a whole -/
theorem Stt.whole (s : Stt p ρ0 H0 G ρ S h σ H) : Nx p ρ0 H0 ρ h H where
  pre := s.pre
  hr := s.hr
  fr := fun a o e nt na => s.fr a o e nt fun m => (s.nw a m).elim na fun z => by rw [e] at z; cases z
  nw := s.nw
  tk := s.tk
  tb := s.tb
/-- the end of a statement -/
def Sd (p : Pm) (ρ0 : List Addr) (H0 : Hp) (W : WX) (G : List (Addr × HO)) (ρ : List Addr) (H : Hp) (D : Ends) (o : Option Out) : Prop := match o with
  | none => False
  | some (.nx S h) => ∀ G' ρ' σ' H', (∀ q ∈ G, q ∈ G') → Lt p.K ρ H ρ' H' → Stt p ρ0 H0 G' ρ' S h σ' H' → D.nx σ' H'
  | some (.brk S h) => ∀ G' ρ' σ' H', (∀ q ∈ G, q ∈ G') → Lt p.K ρ H ρ' H' → Stt p ρ0 H0 G' ρ' S h σ' H' → D.bk σ' H'
  | some (.ct S h) => ∀ G' ρ' σ' H', (∀ q ∈ G, q ∈ G') → Lt p.K ρ H ρ' H' → Stt p ρ0 H0 G' ρ' S h σ' H' → D.ct σ' H'
  | some (.ret r h) => ∀ ρ' H' v, Nx p ρ0 H0 ρ' h H' → RV p ρ' H0 H' v r → D.rt v H'
  | some (.exc c S h) => ∀ G' ρ' σ' H', (∀ q ∈ G, q ∈ G') → Lt p.K ρ H ρ' H' → Stt p ρ0 H0 G' ρ' S h σ' H' → W (.ref (p.cad c)) none σ' H'
def tS (K : PySem.W.Frag) (c : Cc) (g : SX) : TS := fun D σ H => ∃ G ρ S h, Stt (c.p K) c.ρ0 c.H0 G ρ S h σ H ∧ Sd (c.p K) c.ρ0 c.H0 c.W G ρ H D (g S h)
abbrev CS (X : Cx) (c : Cc) (st : Stmt) (g : SX) : Prop := PS X st (tS X.K c g)
abbrev CSs (X : Cx) (c : Cc) (st : List Stmt) (g : SX) : Prop := PSs X st (tS X.K c g)
theorem ps_weak {X : Cx} {st : Stmt} {t t' : TS} (he : PS X st t) (h : ∀ D σ H, t' D σ H → t D σ H) : PS X st t' := ⟨fun pins s σ H D I q => he.run pins s σ H D I (h D σ H q)⟩
theorem pss_weak {X : Cx} {st : List Stmt} {t t' : TS} (he : PSs X st t) (h : ∀ D σ H, t' D σ H → t D σ H) : PSs X st t' := ⟨fun pins s σ H D I q => he.run pins s σ H D I (h D σ H q)⟩
theorem Sd.later {W : WX} {D : Ends} {o : Option Out} (e : Sd p ρ0 H0 W G ρ H D o) (l : Lt p.K ρ H ρ1 H1) (hg : ∀ q ∈ G, q ∈ G') : Sd p ρ0 H0 W G' ρ1 H1 D o := by
  cases o with
  | none => exact e
  | some r =>
    cases r with
    | ret r h => exact e
    | nx S h => exact fun G2 ρ' σ' H' g l2 s => e G2 ρ' σ' H' (fun q m => g q (hg q m)) (l.trans l2) s
    | brk S h => exact fun G2 ρ' σ' H' g l2 s => e G2 ρ' σ' H' (fun q m => g q (hg q m)) (l.trans l2) s
    | ct S h => exact fun G2 ρ' σ' H' g l2 s => e G2 ρ' σ' H' (fun q m => g q (hg q m)) (l.trans l2) s
    | exc k S h => exact fun G2 ρ' σ' H' g l2 s => e G2 ρ' σ' H' (fun q m => g q (hg q m)) (l.trans l2) s
/-- an expression ahead of what a statement does with it -/
def thenS {α : Type} (S : Env') (o : Option (Rs α)) (k : α → Hs → Option Out) : Option Out := match o with
  | none => none
  | some (.ok a h) => k a h
  | some (.exc c h) => some (.exc c S h)
theorem Sd.ex {α β : Type} {W : WX} {D : Ends} {o : Option (Rs α)} {k : α → Hs → Option Out} {rel : List Addr → Hp → Hp → β → α → Prop} {Q : β → Hp → Prop} (s : Stt p ρ0 H0 G ρ S h σ H) (n0 : Nx p ρ H ρ1 h1 H1)
    (e : Sd p ρ0 H0 W G ρ H D (thenS S o k)) (hk : ∀ a h2 ρ2 H2 v, Nx p ρ1 H1 ρ2 h2 H2 → rel ρ2 H1 H2 v a → Sd p ρ0 H0 W G ρ H D (k a h2) → Q v H2) : Ed p (fun cls d H' => W cls d σ H') ρ1 H1 o rel Q := by
  cases o with
  | none => exact e
  | some r =>
    cases r with
    | ok a h1 => exact fun ρ1 H1 v n q => hk a h1 ρ1 H1 v n q e
    | exc c h1 => exact fun ρ' H' n => e G ρ' σ H' (fun _ m => m) ((n0.trans n).lt s.hr) (s.nx (n0.trans n))
/-- what a name gets -/
def slOf : R → Option Sl
  | .d x => some (.d x)
  | .new k => some (.own k)
  | .bor _ => none
theorem Stt.set (s : Stt p ρ0 H0 G ρ S h σ H) {i : Nat} {v : V} {sl : Sl} (hv : SV p ρ G H0 H sl (some v)) (ha : ∀ a, isOwn sl = true → v = .ref a → ∀ j t, j ≠ i → S[j]? = some t → isOwn t = true → σ[j]? ≠ some (some (.ref a))) :
    Stt p ρ0 H0 G ρ (S.set i sl) h (σ.set i (some v)) H where
  hr := s.hr
  tb := s.tb
  pre := s.pre
  fr := s.fr
  nw := s.nw
  tk := s.tk
  gh := s.gh
  len := by rw [List.length_set, List.length_set]; exact s.len
  sl := fun j t ht => by
    by_cases hj : j = i
    · subst hj
      have hl : j < S.length := by
        have := (List.getElem?_eq_some_iff.mp ht).1
        rwa [List.length_set] at this
      rw [List.getElem?_set_self hl] at ht
      cases ht
      exact ⟨some v, List.getElem?_set_self (by rw [← s.len]; exact hl), hv⟩
    · rw [List.getElem?_set_ne (Ne.symm hj)] at ht
      obtain ⟨o, e, q⟩ := s.sl j t ht
      exact ⟨o, by rw [List.getElem?_set_ne (Ne.symm hj)]; exact e, q⟩
  ap := fun j k t u a hjk hj hk ot ou ea => by
    have lt : ∀ {j : Nat} {t : Sl}, (S.set i sl)[j]? = some t → j < S.length := fun {j t} e => by
      have := (List.getElem?_eq_some_iff.mp e).1
      rwa [List.length_set] at this
    by_cases h1 : j = i
    · subst h1
      have hl := lt hj
      rw [List.getElem?_set_self hl] at hj
      cases hj
      rw [List.getElem?_set_self (by rw [← s.len]; exact hl)] at ea
      cases ea
      rw [List.getElem?_set_ne hjk] at hk ⊢
      exact ha a ot rfl k u (Ne.symm hjk) hk ou
    · rw [List.getElem?_set_ne (Ne.symm h1)] at hj ea
      by_cases h2 : k = i
      · subst h2
        intro e2
        have hl : k < S.length := lt hk
        rw [List.getElem?_set_self hl] at hk
        cases hk
        rw [List.getElem?_set_self (by rw [← s.len]; exact hl)] at e2
        cases e2
        exact ha a ou rfl j t h1 hj ot ea
      · rw [List.getElem?_set_ne (Ne.symm h2)] at hk ⊢
        exact s.ap j k t u a hjk hj hk ot ou ea
/-- what an expression gave is stored -/
theorem Stt.put (s : Stt p ρ0 H0 G ρ S h σ H) (n : Nx p ρ H ρ1 h1 H1) {i : Nat} {v : V} {r : R} {sl : Sl} (q : RV p ρ1 H H1 v r) (e : slOf r = some sl) : Stt p ρ0 H0 G ρ1 (S.set i sl) h1 (σ.set i (some v)) H1 := by
  cases r with
  | d x =>
    cases e
    exact (s.nx n).set ⟨v, rfl, q⟩ fun a z => by cases z
  | new k =>
    cases e
    obtain ⟨a, rfl, z, na, m⟩ := q
    obtain ⟨o1, _, o3⟩ := s.old z
    refine (s.nx n).set ⟨a, rfl, m, o1, na, o3⟩ fun b _ eb j t hj ht ot ej => ?_
    cases eb
    obtain ⟨o, eo, sv⟩ := s.sl j t ht
    cases t with
    | own k' =>
      obtain ⟨b, e1, m1, _⟩ := sv
      obtain ⟨u, e2, _⟩ := m1.mut
      rw [eo] at ej
      rw [e1] at ej
      cases ej
      rw [z] at e2; cases e2
    | _ => cases ot
  | bor k => cases e
end

section
variable {X : Cx} {c : Cc} {e : Expr} {st : Stmt} {rest : List Stmt} {pos : Pos}
def sNil : SX := fun S h => some (.nx S h)
def sSeq (f g : SX) : SX := fun S h => match f S h with
  | some (.nx S1 h1) => g S1 h1
  | r => r
theorem cs_nil : CSs X c [] sNil := by
  refine pss_weak pss_nil fun D σ H q => ?_
  obtain ⟨G, ρ, S, h, s, e⟩ := q
  exact e G ρ σ H (fun _ m => m) .refl s
theorem cs_cons {f g : SX} (h1 : CS X c st f) (h2 : CSs X c rest g) : CSs X c (st :: rest) (sSeq f g) := by
  refine pss_weak (pss_cons h1 h2) fun D σ H q => ?_
  obtain ⟨G, ρ, S, h, s, e⟩ := q
  refine ⟨G, ρ, S, h, s, ?_⟩
  unfold sSeq at e
  cases hf : f S h with
  | none => rw [hf] at e; exact e
  | some r =>
    rw [hf] at e
    cases r with
    | nx S1 h1 => exact fun G1 ρ1 σ1 H1 hg l s1 => ⟨G1, ρ1, S1, h1, s1, Sd.later e l hg⟩
    | ret r h => exact e
    | brk S h => exact e
    | ct S h => exact e
    | exc k S h => exact e
theorem cs_one {f : SX} (h1 : CS X c st f) : CSs X c [st] f := pss_one h1
def sPass : SX := sNil
theorem cs_pass : CS X c (.Pass pos) sPass := by
  refine ps_weak ps_pass fun D σ H q => ?_
  obtain ⟨G, ρ, S, h, s, e⟩ := q
  exact e G ρ σ H (fun _ m => m) .refl s
def sBrk : SX := fun S h => some (.brk S h)
def sCt : SX := fun S h => some (.ct S h)
theorem cs_break : CS X c (.Break pos) sBrk := by
  refine ps_weak ps_break fun D σ H q => ?_
  obtain ⟨G, ρ, S, h, s, e⟩ := q
  exact e G ρ σ H (fun _ m => m) .refl s
theorem cs_continue : CS X c (.Continue pos) sCt := by
  refine ps_weak ps_continue fun D σ H q => ?_
  obtain ⟨G, ρ, S, h, s, e⟩ := q
  exact e G ρ σ H (fun _ m => m) .refl s
/-- x = e -/
def sSet (i : Nat) (f : EX) : SX := fun S h => thenS S (f S h) fun r h1 => match slOf r with
  | some sl => some (.nx (S.set i sl) h1)
  | none => none
theorem cs_set {i : Nat} {x : Str} {f : EX} {pos' : Pos} (he : CE X c e f) (hN : X.N.Nodup) (hi : X.N[i]? = some x := by rfl) (hx : Loc X.env.scope x := by first | exact Or.inl rfl | exact Or.inr rfl) (hs : swapsWith e (some (.Name x pos')) pos.line X.env = pure false := by rfl)
    (hf : X.fn x = true ∨ X.env.scope.names.lookup x = some .local := by first | exact .inl rfl | exact .inr rfl | assumption) : CS X c (.Assign [.Name x pos'] e pos) (sSet i f) := by
  refine ps_weak (ps_set hN hi hx he hs hf) fun D σ H q => ?_
  obtain ⟨G, ρ, S, h, s, e⟩ := q
  refine ⟨G, ρ, S, h, s, Sd.ex s (.refl s.hr s.tb) e (rel := RV (c.p X.K)) fun r h1 ρ1 H1 v n1 rv e1 => ?_⟩
  cases hsl : slOf r with
  | none => simp only [hsl] at e1; exact e1.elim
  | some sl =>
    simp only [hsl] at e1
    exact e1 G ρ1 _ H1 (fun _ m => m) (n1.lt s.hr) (s.put n1 rv hsl)
/-- an expression alone -/
def sEx (f : EX) : SX := fun S h => thenS S (f S h) fun _ h1 => some (.nx S h1)
theorem cs_ex {f : EX} (he : CE X c e f) (hs : swapsWith e none pos.line X.env = pure false := by rfl) : CS X c (.Expr e pos) (sEx f) := by
  refine ps_weak (ps_expr he hs) fun D σ H q => ?_
  obtain ⟨G, ρ, S, h, s, e⟩ := q
  exact ⟨G, ρ, S, h, s, Sd.ex s (.refl s.hr s.tb) e (rel := RV (c.p X.K)) fun r h1 ρ1 H1 v n1 rv e1 => e1 G ρ1 _ H1 (fun _ m => m) (n1.lt s.hr) (s.nx n1)⟩
/-- return e; return x -/
def retOk : R → Option R
  | .bor _ => none
  | r => some r
def sRet (f : EX) : SX := fun S h => thenS S (f S h) fun r h1 => match retOk r with
  | some r => some (.ret r h1)
  | none => none
theorem cs_ret {f : EX} (he : CE X c e f) : CS X c (.Return (some e) pos) (sRet f) := by
  refine ps_weak (ps_ret he) fun D σ H q => ?_
  obtain ⟨G, ρ, S, h, s, e⟩ := q
  refine ⟨G, ρ, S, h, s, Sd.ex s (.refl s.hr s.tb) e (rel := RV (c.p X.K)) fun r h1 ρ1 H1 v n1 rv e1 => ?_⟩
  cases r with
  | d x => exact e1 ρ1 H1 v (s.nx n1).whole rv
  | new k =>
    obtain ⟨a, rfl, z, na, m⟩ := rv
    exact e1 ρ1 H1 _ (s.nx n1).whole ⟨a, rfl, (s.old z).1, na, m⟩
  | bor k => exact e1.elim
def sRetV (i : Nat) : SX := fun S h => match S[i]? with
  | some (.d x) => some (.ret (.d x) h)
  | some (.own k) => some (.ret (.new k) h)
  | _ => none
theorem cs_retV {i : Nat} {x : Str} {pos' : Pos} (hN : X.N[i]? = some x := by rfl) (hv : Vis X.env.scope x := by first | exact Or.inl rfl | exact Or.inr (Or.inl rfl) | exact Or.inr (Or.inr rfl)) (hd : (x == ("__debug__" : Str)) = false := by decide)
    (hcd : (x == ("__classdict__" : Str)) = false := by decide) : CS X c (.Return (some (.Name x pos')) pos) (sRetV i) := by
  refine ps_weak (ps_ret (pe_var hN hv hd hcd)) fun D σ H q => ?_
  obtain ⟨G, ρ, S, h, s, e⟩ := q
  unfold sRetV at e
  cases hS : S[i]? with
  | none => rw [hS] at e; exact e.elim
  | some sl =>
    rw [hS] at e
    obtain ⟨o, ho, v⟩ := s.sl i sl hS
    cases sl with
    | none => exact e.elim
    | d x =>
      obtain ⟨w, rfl, r⟩ := v
      exact ⟨w, ho, e ρ H w s.whole r⟩
    | own k =>
      obtain ⟨w, rfl, r, z, na, _⟩ := v
      exact ⟨_, ho, e ρ H _ s.whole ⟨w, rfl, z, na, r⟩⟩
    | bor k => exact e.elim
def sRetN : SX := fun _ h => some (.ret (.d .non) h)
theorem cs_retN : CS X c (.Return none pos) sRetN := by
  refine ps_weak ps_retN fun D σ H q => ?_
  obtain ⟨G, ρ, S, h, s, e⟩ := q
  exact e ρ H _ s.whole .non
/-- if -/
def sIf (t : TX) (f g : SX) : SX := fun S h => thenS S (t S h) fun b h1 => if b = true then f S h1 else g S h1
theorem cs_if {t : TX} {f g : SX} {a b : List Stmt} (ht : CT X c e t) (ha : CSs X c a f) (hb : CSs X c b g) : CS X c (.If e a b pos) (sIf t f g) := by
  refine ps_weak (ps_if ht ha hb) fun D σ H q => ?_
  obtain ⟨G, ρ, S, h, s, e⟩ := q
  refine ⟨G, ρ, S, h, s, Sd.ex s (.refl s.hr s.tb) e (rel := Bl) fun b h1 ρ1 H1 v n1 rv e1 => ?_⟩
  cases rv
  cases b with
  | true => exact iteT ⟨G, ρ1, S, h1, s.nx n1, Sd.later e1 (n1.lt s.hr) fun _ m => m⟩
  | false => exact iteF ⟨G, ρ1, S, h1, s.nx n1, Sd.later e1 (n1.lt s.hr) fun _ m => m⟩
/-- while, at most so many turns -/
def sWhile (t : TX) (f : SX) : Nat → SX
  | 0 => fun _ _ => none
  | n + 1 => fun S h => thenS S (t S h) fun b h1 => if b = true then (match f S h1 with
      | some (.nx S2 h2) => sWhile t f n S2 h2
      | some (.ct S2 h2) => sWhile t f n S2 h2
      | some (.brk S2 h2) => some (.nx S2 h2)
      | r => r) else some (.nx S h1)
theorem cs_while {t : TX} {f : SX} {n : Nat} {b : List Stmt} (hp : PassesOwn (model X.prog X.w) X.A X.env X.xe) (ht : CT X c e t) (hb : CSs X c b f) : CS X c (.While e b [] pos) (sWhile t f n) := by
  refine ps_weak (ps_while hp ht hb) fun D σ H q => ?_
  obtain ⟨G, ρ, S, h, s, e⟩ := q
  refine ⟨fun m σ' H' => ∃ G' ρ' S' h', (∀ q ∈ G, q ∈ G') ∧ Lt X.K ρ H ρ' H' ∧ Stt (c.p X.K) c.ρ0 c.H0 G' ρ' S' h' σ' H' ∧ Sd (c.p X.K) c.ρ0 c.H0 c.W G' ρ' H' D (sWhile t f m S' h'),
    ⟨n, G, ρ, S, h, fun _ m => m, .refl, s, e⟩, fun m σ1 H1 hw => ?_⟩
  obtain ⟨G1, ρ1, S1, h1, hg1, l1, s1, e1⟩ := hw
  cases m with
  | zero => exact e1.elim
  | succ m =>
    refine ⟨G1, ρ1, S1, h1, s1, Sd.ex s1 (.refl s1.hr s1.tb) e1 (rel := Bl) fun b h2 ρ2 H2 v n2 rv e2 => ?_⟩
    cases rv
    have l2 := n2.lt s1.hr
    cases b with
    | false => exact iteF (e2 G1 ρ2 _ H2 (fun _ m => m) l2 (s1.nx n2))
    | true =>
      refine iteT ⟨fun σ' H' => ∃ G' ρ' S' h', (∀ q ∈ G, q ∈ G') ∧ Lt X.K ρ H ρ' H' ∧ Stt (c.p X.K) c.ρ0 c.H0 G' ρ' S' h' σ' H' ∧ Sd (c.p X.K) c.ρ0 c.H0 c.W G' ρ' H' D (sWhile t f m S' h'), fun σ' H' hn => ⟨m, Nat.lt_succ_self m, hn⟩, ?_⟩
      refine ⟨G1, ρ2, S1, h2, s1.nx n2, ?_⟩
      simp only [if_pos] at e2
      cases hf : f S1 h2 with
      | none => rw [hf] at e2; exact e2
      | some r =>
        rw [hf] at e2
        cases r with
        | nx S3 h3 => exact fun G3 ρ3 σ3 H3 hg3 l3 s3 => ⟨G3, ρ3, S3, h3, fun q m => hg3 q (hg1 q m), l1.trans (l2.trans l3), s3, Sd.later e2 (l2.trans l3) hg3⟩
        | ct S3 h3 => exact fun G3 ρ3 σ3 H3 hg3 l3 s3 => ⟨G3, ρ3, S3, h3, fun q m => hg3 q (hg1 q m), l1.trans (l2.trans l3), s3, Sd.later e2 (l2.trans l3) hg3⟩
        | brk S3 h3 => exact fun G3 ρ3 σ3 H3 hg3 l3 s3 => e2 G3 ρ3 σ3 H3 hg3 (l2.trans l3) s3
        | ret r h3 => exact e2
        | exc k S3 h3 => exact fun G3 ρ3 σ3 H3 hg3 l3 s3 => e2 G3 ρ3 σ3 H3 hg3 (l2.trans l3) s3
end
end Sh
set_option Elab.async false
set_option linter.all false
set_option maxRecDepth 100000
namespace Sh
open PySem PySem.Spec PyProof.Rows L2

/-! ### writes -/
section
variable {p : Pm} {ρ ρ1 ρ0 : List Addr} {G : List (Addr × HO)} {S : Env'} {σ : L2.St} {h h1 : Hs} {H H1 H0 : Hp} {a : Addr} {u o : HO}
theorem upd_om {b : Addr} {x : O} (hq : H a = some u) (m : MutO u) (hb : b ≠ a) (q : OM p ρ H b x) : OM p ρ (upd H a o) b x := by
  cases x with
  | lst ds => obtain ⟨vs, e, r⟩ := q; exact ⟨vs, by rw [upd_ne hb]; exact e, upd_dvs hq m r⟩
  | dct kd => obtain ⟨vs, e, r1, r2⟩ := q; exact ⟨vs, by rw [upd_ne hb]; exact e, r1, upd_dvs hq m r2⟩
  | ins c fs => obtain ⟨dx, gs, e, r1, r2⟩ := q; exact ⟨dx, gs, by rw [upd_ne hb]; exact e, r1, upd_dvs hq m r2⟩
theorem upd_cm {b : Addr} {x : Cn} (hq : H a = some u) (m : MutO u) (hb : b ≠ a) (q : CM p.K ρ H b x) : CM p.K ρ (upd H a o) b x := by
  cases x with
  | lst ds => obtain ⟨vs, e, r⟩ := q; exact ⟨vs, by rw [upd_ne hb]; exact e, upd_dvs hq m r⟩
  | dct kd => obtain ⟨vs, e, r1, r2⟩ := q; exact ⟨vs, by rw [upd_ne hb]; exact e, r1, upd_dvs hq m r2⟩
  | fz ds => exact q.elim
theorem upd_tabs (hq : H a = some u) (m : MutO u) (t : LamX.Tabs p.T H) : LamX.Tabs p.T (upd H a o) := fun q hq2 => by
  obtain ⟨ps, h1, h2, h3⟩ := t q hq2
  have key : ∀ {b w}, H b = some w → ¬ MutO w → upd H a o b = some w := fun {b w} e n => by
    rw [upd_ne (fun z => by rw [z, hq] at e; cases e; exact n m)]
    exact e
  refine ⟨ps, key h1 (fun z => z), h2, fun pos cv hc => ?_⟩
  obtain ⟨c, e1, e2⟩ := h3 pos cv hc
  exact ⟨c, e1, key e2 (by unfold LamX.CodeO; exact fun z => z)⟩
/-- a shared object is written -/
theorem Nx.write {j : Nat} {x : O} (hr : HR p ρ h H) (tb : LamX.Tabs p.T H) (hj : ρ[j]? = some a) (hq : H a = some u) (m : MutO u) (new : OM p ρ (upd H a o) a x) : Nx p ρ H ρ (h.set j x) (upd H a o) where
  pre := List.prefix_refl _
  hr := ⟨by rw [List.length_set]; exact hr.len, hr.nd, fun k b y hk hy => by
    by_cases hkj : k = j
    · subst hkj
      rw [hj] at hk; cases hk
      rw [List.getElem?_set_self (by rw [← hr.len]; exact (List.getElem?_eq_some_iff.mp hj).1)] at hy
      cases hy
      exact new
    · rw [List.getElem?_set_ne (Ne.symm hkj)] at hy
      refine upd_om hq m (fun z => hkj ?_) (hr.ob k b y hk hy)
      obtain ⟨h1, e1⟩ := List.getElem?_eq_some_iff.mp hk
      obtain ⟨h2, e2⟩ := List.getElem?_eq_some_iff.mp hj
      exact (List.getElem_inj hr.nd).mp (e1.trans (z.trans e2.symm))⟩
  fr := fun b w e _ nb => by
    rw [upd_ne (fun z => nb (by rw [z]; exact List.mem_of_getElem? hj))]
    exact e
  nw := fun _ m => .inl m
  tk := fun b ps e => ⟨ps, by rw [upd_ne (fun z => by rw [z, hq] at e; cases e; exact m)]; exact e⟩
  tb := upd_tabs hq m tb
/-- a local container is written -/
theorem Stt.write (s : Stt p ρ0 H0 G ρ S h σ H) {i : Nat} {k k' : Cn} (hi : S[i]? = some (.own k)) (hv : σ[i]? = some (some (V.ref a))) (new : (∃ w, H a = some w ∧ MutO w) → CM p.K ρ (upd H a o) a k') :
    Stt p ρ0 H0 G ρ (S.set i (.own k')) h σ (upd H a o) ∧ Lt p.K ρ H ρ (upd H a o) := by
  obtain ⟨o1, e1, v⟩ := s.sl i _ hi
  rw [hv] at e1; cases e1
  obtain ⟨b, e2, m, z, na, g⟩ := v
  cases e2
  obtain ⟨w, hw, mw⟩ := m.mut
  have new := new ⟨w, hw, mw⟩
  refine ⟨⟨⟨s.hr.len, s.hr.nd, fun j b x hj hx => upd_om hw mw (fun z => na (by rw [← z]; exact List.mem_of_getElem? hj)) (s.hr.ob j b x hj hx)⟩, upd_tabs hw mw s.tb, s.pre, fun b x e nt nb => ?_, s.nw, fun b ps e => ?_, fun q hq => ?_,
    by rw [List.length_set]; exact s.len, fun j t ht => ?_, fun j k2 t t2 b hjk hj hk ot ou ea => ?_⟩, List.prefix_refl _, fun _ _ q => upd_sqt hw mw q⟩
  · rw [upd_ne (fun q => by rw [q] at e; rw [z] at e; cases e)]
    exact s.fr b x e nt nb
  · obtain ⟨qs, e1⟩ := s.tk b ps e
    exact ⟨qs, by rw [upd_ne (fun q => by rw [q, hw] at e1; cases e1; exact mw)]; exact e1⟩
  · obtain ⟨e, nt, nb⟩ := s.gh q hq
    exact ⟨by rw [upd_ne (g q hq)]; exact e, nt, nb⟩
  · by_cases hj : j = i
    · subst hj
      rw [List.getElem?_set_self (List.getElem?_eq_some_iff.mp hi).1] at ht
      cases ht
      exact ⟨_, hv, a, rfl, new, z, na, g⟩
    · rw [List.getElem?_set_ne (Ne.symm hj)] at ht
      obtain ⟨o1, e1, v⟩ := s.sl j t ht
      refine ⟨o1, e1, ?_⟩
      cases t with
      | none => trivial
      | d x => obtain ⟨v, e, r⟩ := v; exact ⟨v, e, upd_dv hw mw r⟩
      | own c =>
        obtain ⟨b, e, m2, z2, nb, g2⟩ := v
        subst e
        exact ⟨b, rfl, upd_cm hw mw (fun q => s.ap i j _ _ a (Ne.symm hj) hi ht rfl rfl hv (by rw [e1, q])) m2, z2, nb, g2⟩
      | bor c =>
        obtain ⟨b, e, r⟩ := v
        refine ⟨b, e, ?_⟩
        have nba : Kn G H0 b → b ≠ a := fun kn q => by
          rcases kn with kn | ⟨q2, hq2, e2⟩
          · exact kn (by rw [q]; exact z)
          · exact g q2 hq2 (e2.trans q)
        cases c with
        | lst ds => obtain ⟨vs, r, e1, nb, kn⟩ := r; exact ⟨vs, upd_dvs hw mw r, by rw [upd_ne (nba kn)]; exact e1, nb, kn⟩
        | dct kd => obtain ⟨vs, ⟨r1, r2⟩, e1, nb, kn⟩ := r; exact ⟨vs, ⟨r1, upd_dvs hw mw r2⟩, by rw [upd_ne (nba kn)]; exact e1, nb, kn⟩
        | fz ds =>
          obtain ⟨vs, r, q | ⟨⟨ob, e1⟩, nb, kn⟩⟩ := r
          · exact ⟨vs, upd_dvs hw mw r, .inl q⟩
          · exact ⟨vs, upd_dvs hw mw r, .inr ⟨⟨ob, by rw [upd_ne (nba kn)]; exact e1⟩, nb, kn⟩⟩
  · have own_at : ∀ {j : Nat} {t : Sl}, (S.set i (.own k'))[j]? = some t → isOwn t = true → ∃ t', S[j]? = some t' ∧ isOwn t' = true := fun {j t} hj ot => by
      by_cases q : j = i
      · subst q
        exact ⟨_, hi, rfl⟩
      · rw [List.getElem?_set_ne (Ne.symm q)] at hj
        exact ⟨t, hj, ot⟩
    obtain ⟨t1, h1, q1⟩ := own_at hj ot
    obtain ⟨t3, h3, q3⟩ := own_at hk ou
    exact s.ap j k2 t1 t3 b hjk h1 h3 q1 q3 ea
end

/-! ### keys and values -/
section
variable {K : PySem.W.Frag} {ρ : List Addr} {H : Hp}
def putD (kd : List (Key × D)) (k : Key) (d : D) : List (Key × D) := if (kd.any fun q => decide (q.1 = k)) = true then kd.map (fun q => if q.1 = k then (q.1, d) else q) else kd ++ [(k, d)]
theorem KD.cons {k : Key} {v : V} {d : D} {ks : List (Key × V)} {kd : List (Key × D)} (q : DV K ρ H v d) (r : KD K ρ H ks kd) : KD K ρ H ((k, v) :: ks) ((k, d) :: kd) := ⟨by rw [List.map_cons, List.map_cons, r.1], .cons q r.2⟩
theorem KD.any (k : Key) : ∀ {ks : List (Key × V)} {kd : List (Key × D)}, KD K ρ H ks kd → (ks.any fun q => decide (q.1 = k)) = (kd.any fun q => decide (q.1 = k))
  | [], [], _ => rfl
  | [], _ :: _, ⟨e, _⟩ => by simp at e
  | _ :: _, [], ⟨e, _⟩ => by simp at e
  | (k1, v1) :: ks, (k2, d2) :: kd, ⟨e, r⟩ => by
    simp only [List.map_cons, List.cons.injEq] at e
    cases r with
    | cons h r => rw [List.any_cons, List.any_cons, KD.any k ⟨e.2, r⟩, e.1]
theorem KD.repl (k : Key) {v : V} {d : D} (q : DV K ρ H v d) : ∀ {ks : List (Key × V)} {kd : List (Key × D)}, KD K ρ H ks kd →
    KD K ρ H (ks.map fun q => if q.1 = k then (q.1, v) else q) (kd.map fun q => if q.1 = k then (q.1, d) else q)
  | [], [], _ => ⟨rfl, .nil⟩
  | [], _ :: _, ⟨e, _⟩ => by simp at e
  | _ :: _, [], ⟨e, _⟩ => by simp at e
  | (k1, v1) :: ks, (k2, d2) :: kd, ⟨e, r⟩ => by
    simp only [List.map_cons, List.cons.injEq] at e
    obtain ⟨e1, e2⟩ := e
    subst e1
    cases r with
    | cons h r =>
      rw [List.map_cons, List.map_cons]
      have ih := KD.repl k q (ks := ks) (kd := kd) ⟨e2, r⟩
      by_cases hk : k1 = k
      · simp only [hk, if_true]; exact ih.cons q
      · simp only [hk, if_false]; exact ih.cons h
theorem KD.snoc (k : Key) {v : V} {d : D} (q : DV K ρ H v d) {ks : List (Key × V)} {kd : List (Key × D)} (r : KD K ρ H ks kd) : KD K ρ H (ks ++ [(k, v)]) (kd ++ [(k, d)]) :=
  ⟨by rw [List.map_append, List.map_append, r.1]; rfl, by rw [List.map_append, List.map_append]; exact r.2.append (.cons q .nil)⟩
theorem KD.put (k : Key) {v : V} {d : D} (q : DV K ρ H v d) {ks : List (Key × V)} {kd : List (Key × D)} (r : KD K ρ H ks kd) : KD K ρ H (putK ks k v) (putD kd k d) := by
  unfold putK putD
  rw [r.any k]
  by_cases e : (kd.any fun q => decide (q.1 = k)) = true
  · rw [if_pos e, if_pos e]; exact r.repl k q
  · rw [if_neg e, if_neg e]; exact r.snoc k q
end

/-! ### statements that write -/
section
variable {X : Cx} {c : Cc} {e eo ei : Expr} {st : Stmt} {rest : List Stmt} {pos : Pos}
/-- a list's or dict's item -/
def rSetA : TSet := fun o i v H Q => rSetL o i v H Q ∨ rSetD o i v H Q
theorem set_any (hu : X.A.units + 1 < cLine) : PSet X rSetA := by
  intro pins s σ H o i v ov iv u Q I ro ri rv h
  rcases h with h | h
  · exact set_list pins s σ H o i v ov iv u Q I ro ri rv h
  · exact set_dict hu pins s σ H o i v ov iv u Q I ro ri rv h
def setC (k : Cn) (i : D) (d : D) : Option Cn := match k, i with
  | .lst xs, .int i => match ixN xs.length i with
    | some j => some (.lst (xs.set j d))
    | none => none
  | .dct kd, i => match keyD i with
    | some k => if kd.length < sizeLine then some (.dct (putD kd k d)) else none
    | none => none
  | _, _ => none
def setO (k : O) (i : D) (d : D) : Option O := match k, i with
  | .lst xs, .int i => match ixN xs.length i with
    | some j => some (.lst (xs.set j d))
    | none => none
  | .dct kd, i => match keyD i with
    | some k => if kd.length < sizeLine then some (.dct (putD kd k d)) else none
    | none => none
  | _, _ => none
/-- o[i] = e, o a shared object -/
def sSetIx (fo fi fe : EX) : SX := fun S h => thenS S (fe S h) fun v h1 => thenS S (fo S h1) fun o h2 => thenS S (fi S h2) fun i h3 => match v, o, i with
  | .d v, .d (.ref j), .d i => match h3[j]? with
    | some x => match setO x i v with
      | some y => some (.nx S (h3.set j y))
      | none => none
    | none => none
  | _, _, _ => none
theorem setO_of {p : Pm} {ρ : List Addr} {H : Hp} {a : Addr} {x y : O} {i v : D} {iv vv : V} {Q : Hp → Prop} (hm : OM p ρ H a x) (qi : DV p.K ρ H iv i) (qv : DV p.K ρ H vv v) (e : setO x i v = some y)
    (k : ∀ u o, H a = some u → MutO u → OM p ρ (upd H a o) a y → Q (upd H a o)) : rSetA (.ref a) iv vv H Q := by
  cases x with
  | lst xs =>
    obtain ⟨vs, e1, r⟩ := hm
    cases i with
    | int i =>
      cases qi
      simp only [setO] at e
      cases hj : ixN xs.length i with
      | none => rw [hj] at e; cases e
      | some j =>
        rw [hj] at e
        cases e
        have m : MutO (.lst vs) := trivial
        exact .inl ⟨a, vs, i, j, rfl, rfl, e1, by rw [r.length]; exact hj, k _ _ e1 m ⟨_, upd_same, upd_dvs e1 m (r.set qv j)⟩⟩
    | _ => cases e
  | dct kd =>
    obtain ⟨ks, e1, r⟩ := hm
    have e : (match keyD i with
      | some k => if kd.length < sizeLine then some (O.dct (putD kd k v)) else none
      | none => none) = some y := by cases i <;> exact e
    cases hk : keyD i with
    | none => rw [hk] at e; cases e
    | some ky =>
      rw [hk] at e
      simp only at e
      split at e
      · rename_i hz
        cases e
        have ey := key_of' qi hk
        subst ey
        have m : MutO (.dK ks) := trivial
        obtain ⟨r1, r2⟩ := r.put ky qv
        exact .inr ⟨a, _, rfl, DPut.k e1 (by rw [r.length]; exact hz), k _ _ e1 m ⟨_, upd_same, r1, upd_dvs e1 m r2⟩⟩
      · cases e
  | ins c fs => cases i <;> cases e
theorem cs_setIx {fo fi fe : EX} {tpos : Pos} (ho : CE X c eo fo) (hi : CE X c ei fi) (he : CE X c e fe) (hu : X.A.units + 1 < cLine) (ha : ∀ v, assign (.Subscript eo ei tpos) X.env v = (do
      let ov ← holding [v] (eval eo X.env)
      let iv ← holding [v, ov] (eval ei X.env)
      standAt tpos
      holding [v, ov, iv] (setItem ov iv v)
      release [v, ov, iv] []) := by intro _; rfl) (hs : swapsWithSole [.Subscript eo ei tpos] e pos.line X.env = pure false := by rfl) (hw : swappedStores [.Subscript eo ei tpos] e X.env = pure none := by rfl)
    (h1 : (assignEach [.Subscript eo ei tpos] X.env).map (·.2) = [assign (.Subscript eo ei tpos) X.env] := by rfl) : CS X c (.Assign [.Subscript eo ei tpos] e pos) (sSetIx fo fi fe) := by
  refine ps_weak (ps_asg he (pg_sub ho hi (set_any hu) ha) hs hw h1) fun D σ H q => ?_
  obtain ⟨G, ρ, S, h, s, e⟩ := q
  refine ⟨G, ρ, S, h, s, Sd.ex s (.refl s.hr s.tb) e (rel := RV (c.p X.K)) fun v h1 ρ1 H1 vv n1 rv e1 => ?_⟩
  refine ⟨G, ρ1, S, h1, s.nx n1, Sd.ex s n1 e1 (rel := RV (c.p X.K)) fun o h2 ρ2 H2 ov n2 ro e2 => ?_⟩
  have n12 := n1.trans n2
  refine ⟨G, ρ2, S, h2, s.nx n12, Sd.ex s n12 e2 (rel := RV (c.p X.K)) fun i h3 ρ3 H3 iv n3 ri e3 => ?_⟩
  have n := n12.trans n3
  cases v with
  | d v =>
    cases o with
    | d o =>
      cases o with
      | ref j =>
        cases i with
        | d i =>
          simp only at e3
          cases hx : h3[j]? with
          | none => rw [hx] at e3; exact e3.elim
          | some x =>
            rw [hx] at e3
            simp only at e3
            cases hy : setO x i v with
            | none => rw [hy] at e3; exact e3.elim
            | some y =>
              rw [hy] at e3
              have ro3 : DV X.K ρ3 H3 ov (.ref j) := n3.dv n2.hr ro
              have rv3 : DV X.K ρ3 H3 vv v := n3.dv n2.hr (n2.dv n1.hr rv)
              cases ro3 with
              | ref hj =>
                rename_i a
                have hm := n.hr.ob j a x hj hx
                refine setO_of hm ri rv3 hy fun u o hq m new => ?_
                have nw := Nx.write n.hr n.tb hj hq m new
                have nn := n.trans nw
                exact e3 G _ _ _ (fun _ m => m) (nn.lt s.hr) (s.nx nn)
        | _ => exact e3.elim
      | _ => cases i <;> exact e3.elim
    | _ => cases i <;> exact e3.elim
  | _ => cases o <;> cases i <;> (try rename_i z _; cases z) <;> exact e3.elim
end
end Sh
set_option Elab.async false
set_option linter.all false
set_option maxRecDepth 100000
namespace Sh
open PySem PySem.Spec PyProof.Rows L2
section
variable {X : Cx} {c : Cc} {e eo ei : Expr} {st : Stmt} {rest : List Stmt} {pos : Pos}
/-! ### x[i] = e, x a local container -/
def sSetOwn (i : Nat) (fi fe : EX) : SX := fun S h => thenS S (fe S h) fun v h1 => match S[i]? with
  | some (.own n) => thenS S (fi S h1) fun k h2 => match v, k with
    | .d v, .d k => match setC n k v with
      | some m => some (.nx (S.set i (.own m)) h2)
      | none => none
    | _, _ => none
  | _ => none
theorem setC_of {p : Pm} {ρ : List Addr} {H : Hp} {a : Addr} {x y : Cn} {i v : D} {iv vv : V} {Q : Hp → Prop} (hm : CM p.K ρ H a x) (qi : DV p.K ρ H iv i) (qv : DV p.K ρ H vv v) (e : setC x i v = some y)
    (k : ∀ o, ((∃ w, H a = some w ∧ MutO w) → CM p.K ρ (upd H a o) a y) → Q (upd H a o)) : rSetA (.ref a) iv vv H Q := by
  cases x with
  | lst xs =>
    obtain ⟨vs, e1, r⟩ := hm
    cases i with
    | int i =>
      cases qi
      simp only [setC] at e
      cases hj : ixN xs.length i with
      | none => rw [hj] at e; cases e
      | some j =>
        rw [hj] at e
        cases e
        have m : MutO (.lst vs) := trivial
        exact .inl ⟨a, vs, i, j, rfl, rfl, e1, by rw [r.length]; exact hj, k _ fun _ => ⟨_, upd_same, upd_dvs e1 m (r.set qv j)⟩⟩
    | _ => cases e
  | dct kd =>
    obtain ⟨ks, e1, r⟩ := hm
    have e : (match keyD i with
      | some k => if kd.length < sizeLine then some (Cn.dct (putD kd k v)) else none
      | none => none) = some y := by cases i <;> exact e
    cases hk : keyD i with
    | none => rw [hk] at e; cases e
    | some ky =>
      rw [hk] at e
      simp only at e
      split at e
      · rename_i hz
        cases e
        have ey := key_of' qi hk
        subst ey
        have m : MutO (.dK ks) := trivial
        obtain ⟨r1, r2⟩ := r.put ky qv
        exact .inr ⟨a, _, rfl, DPut.k e1 (by rw [r.length]; exact hz), k _ fun _ => ⟨_, upd_same, r1, upd_dvs e1 m r2⟩⟩
      · cases e
  | fz xs => cases i <;> cases e
theorem cs_setOwn {i : Nat} {x : Str} {fi fe : EX} {tpos vpos : Pos} (hi : CE X c ei fi) (he : CE X c e fe) (hu : X.A.units + 1 < cLine)
    (hN : X.N[i]? = some x := by rfl) (hv : Vis X.env.scope x := by first | exact Or.inl rfl | exact Or.inr (Or.inl rfl) | exact Or.inr (Or.inr rfl)) (hd : (x == ("__debug__" : Str)) = false := by decide) (hcd : (x == ("__classdict__" : Str)) = false := by decide)
    (ha : ∀ v, assign (.Subscript (.Name x vpos) ei tpos) X.env v = (do
      let ov ← holding [v] (eval (.Name x vpos) X.env)
      let iv ← holding [v, ov] (eval ei X.env)
      standAt tpos
      holding [v, ov, iv] (setItem ov iv v)
      release [v, ov, iv] []) := by intro _; rfl) (hs : swapsWithSole [.Subscript (.Name x vpos) ei tpos] e pos.line X.env = pure false := by rfl) (hw : swappedStores [.Subscript (.Name x vpos) ei tpos] e X.env = pure none := by rfl)
    (h1 : (assignEach [.Subscript (.Name x vpos) ei tpos] X.env).map (·.2) = [assign (.Subscript (.Name x vpos) ei tpos) X.env] := by rfl) : CS X c (.Assign [.Subscript (.Name x vpos) ei tpos] e pos) (sSetOwn i fi fe) := by
  refine ps_weak (ps_asg he (pg_sub (pe_var hN hv hd hcd) hi (set_any hu) ha) hs hw h1) fun D σ H q => ?_
  obtain ⟨G, ρ, S, h, s, e⟩ := q
  refine ⟨G, ρ, S, h, s, Sd.ex s (.refl s.hr s.tb) e (rel := RV (c.p X.K)) fun v h1 ρ1 H1 vv n1 rv e1 => ?_⟩
  cases hS : S[i]? with
  | none => simp only [hS] at e1; exact e1.elim
  | some sl =>
    simp only [hS] at e1
    cases sl with
    | own n =>
      simp only at e1
      obtain ⟨o, ho, a, rfl, m, z, na, g⟩ := (s.nx n1).sl i _ hS
      refine ⟨_, ho, G, ρ1, S, h1, s.nx n1, Sd.ex s n1 e1 (rel := RV (c.p X.K)) fun k h2 ρ2 H2 kv n2 rk e2 => ?_⟩
      have nn := n1.trans n2
      cases v with
      | d v =>
        cases k with
        | d k =>
          simp only at e2
          cases hm : setC n k v with
          | none => rw [hm] at e2; exact e2.elim
          | some m' =>
            rw [hm] at e2
            have m2 := n2.cm n1.hr m na
            refine setC_of m2 rk (n2.dv n1.hr rv) hm fun o new => ?_
            obtain ⟨s3, l3⟩ := (s.nx nn).write hS ho new
            exact e2 G _ _ _ (fun _ m => m) ((nn.lt s.hr).trans l3) s3
        | _ => exact e2.elim
      | _ => cases k <;> exact e2.elim
    | _ => exact e1.elim

/-! ### x.append(e) -/
def sAppOwn (i : Nat) (fe : EX) : SX := fun S h => match S[i]? with
  | some (.own (.lst xs)) => thenS S (fe S h) fun v h1 => match v with
    | .d v => if xs.length < sizeLine then some (.nx (S.set i (.own (.lst (xs ++ [v])))) h1) else none
    | _ => none
  | _ => none
theorem cs_appOwn {i : Nat} {x : Str} {fe : EX} {vpos apos cpos : Pos} (he : CE X c e fe)
    (hN : X.N[i]? = some x := by rfl) (hv : Vis X.env.scope x := by first | exact Or.inl rfl | exact Or.inr (Or.inl rfl) | exact Or.inr (Or.inr rfl)) (hd : (x == ("__debug__" : Str)) = false := by decide) (hcd : (x == ("__classdict__" : Str)) = false := by decide)
    (hbase : attributeBase (.Name x vpos) "append" X.env (eval (.Name x vpos) X.env) = eval (.Name x vpos) X.env := by rfl)
    (hfew : ((backTo cpos (starEach (e :: []) X.env)).all (fun x => !x.1) && (backToKw cpos (keywordEach [] X.env)).all (fun x => x.1.isSome)
      && decide ((e :: []).length + ([] : List Keyword).length + (if ([] : List Keyword).isEmpty then 0 else 1) < 30)) = true := by rfl)
    (hline : (apos.endLine == cpos.line) = true := by rfl) (hs : starEach (e :: []) X.env = (false, eval e X.env) :: starEach [] X.env := by rfl) (hplain : (backTo cpos (starEach [] X.env)).any (·.1) = false := by rfl)
    (hsw : swapsWith (.Call (.Attribute (.Name x vpos) "append" apos) [e] [] cpos) none pos.line X.env = pure false := by rfl) :
    CS X c (.Expr (.Call (.Attribute (.Name x vpos) "append" apos) [e] [] cpos) pos) (sAppOwn i fe) := by
  refine ps_weak (ps_expr (pe_bm PySem.F.plainAttrs_list PySem.F.slot_list_append PySem.F.type_list_append mt_append (pe_var hN hv hd hcd) (pa_cons he pa_nil hs) hbase hfew hline hs hplain) hsw) fun D σ H q => ?_
  obtain ⟨G, ρ, S, h, s, e⟩ := q
  unfold sAppOwn at e
  cases hS : S[i]? with
  | none => rw [hS] at e; exact e.elim
  | some sl =>
    rw [hS] at e
    cases sl with
    | own n =>
      cases n with
      | lst xs =>
        simp only at e
        obtain ⟨o, ho, a, rfl, m, z, na, g⟩ := s.sl i _ hS
        obtain ⟨vs, e0, r0⟩ := m
        refine ⟨_, ho, Or.inl ⟨rfl, _, Or.inl (Or.inl e0)⟩, G, ρ, S, h, s, Sd.ex s (.refl s.hr s.tb) e (rel := RV (c.p X.K)) fun v h1 ρ1 H1 vv n1 rv e1 => ?_⟩
        cases v with
        | d v =>
          simp only at e1
          split at e1
          · rename_i hz
            have e01 := n1.fr a _ e0 (fun _ z => nomatch z) na
            refine ⟨a, vs, vv, rfl, rfl, e01, by rw [r0.length]; exact hz, ?_⟩
            obtain ⟨s3, l3⟩ := (s.nx n1).write (k' := .lst (xs ++ [v])) (o := .lst (vs ++ [vv])) hS ho fun ⟨w, hw, mw⟩ => ⟨_, upd_same, upd_dvs hw mw ((n1.dvs s.hr r0).append (.cons rv .nil))⟩
            exact e1 G _ _ _ (fun _ m => m) ((n1.lt s.hr).trans l3) s3
          · exact e1.elim
        | _ => exact e1.elim
      | _ => exact e.elim
    | _ => exact e.elim
/-- o.append(e), o a shared list -/
def sApp (fo fe : EX) : SX := fun S h => thenS S (fo S h) fun o h1 => match o with
  | .d (.ref j) => match h1[j]? with
    | some (.lst _) => thenS S (fe S h1) fun v h2 => match v, h2[j]? with
      | .d v, some (.lst xs) => if xs.length < sizeLine then some (.nx S (h2.set j (.lst (xs ++ [v])))) else none
      | _, _ => none
    | _ => none
  | _ => none
theorem cs_app {fo fe : EX} {apos cpos : Pos} (ho : CE X c eo fo) (he : CE X c e fe)
    (hbase : attributeBase eo "append" X.env (eval eo X.env) = eval eo X.env := by rfl)
    (hfew : ((backTo cpos (starEach (e :: []) X.env)).all (fun x => !x.1) && (backToKw cpos (keywordEach [] X.env)).all (fun x => x.1.isSome)
      && decide ((e :: []).length + ([] : List Keyword).length + (if ([] : List Keyword).isEmpty then 0 else 1) < 30)) = true := by rfl)
    (hline : (apos.endLine == cpos.line) = true := by rfl) (hs : starEach (e :: []) X.env = (false, eval e X.env) :: starEach [] X.env := by rfl) (hplain : (backTo cpos (starEach [] X.env)).any (·.1) = false := by rfl)
    (hsw : swapsWith (.Call (.Attribute eo "append" apos) [e] [] cpos) none pos.line X.env = pure false := by rfl) :
    CS X c (.Expr (.Call (.Attribute eo "append" apos) [e] [] cpos) pos) (sApp fo fe) := by
  refine ps_weak (ps_expr (pe_bm PySem.F.plainAttrs_list PySem.F.slot_list_append PySem.F.type_list_append mt_append ho (pa_cons he pa_nil hs) hbase hfew hline hs hplain) hsw) fun D σ H q => ?_
  obtain ⟨G, ρ, S, h, s, e⟩ := q
  refine ⟨G, ρ, S, h, s, Sd.ex s (.refl s.hr s.tb) e (rel := RV (c.p X.K)) fun o h1 ρ1 H1 ov n1 ro e1 => ?_⟩
  cases o with
  | d o =>
    cases o with
    | ref j =>
      simp only at e1
      cases hx : h1[j]? with
      | none => rw [hx] at e1; exact e1.elim
      | some x =>
        rw [hx] at e1
        cases x with
        | lst ys =>
          simp only at e1
          have ro' : DV X.K ρ1 H1 ov (.ref j) := ro
          cases ro' with
          | ref hj =>
            rename_i a
            obtain ⟨ws, e0, r0⟩ := n1.hr.ob j a _ hj hx
            refine ⟨Or.inl ⟨rfl, _, Or.inl (Or.inl e0)⟩, G, ρ1, S, h1, s.nx n1, Sd.ex s n1 e1 (rel := RV (c.p X.K)) fun v h2 ρ2 H2 vv n2 rv e2 => ?_⟩
            have n := n1.trans n2
            cases v with
            | d v =>
              cases hy : h2[j]? with
              | none => rw [hy] at e2; exact e2.elim
              | some y =>
                rw [hy] at e2
                cases y with
                | lst xs =>
                  simp only at e2
                  split at e2
                  · rename_i hz
                    have hj2 := pre_get n2.pre hj
                    obtain ⟨vs, e3, r3⟩ := n.hr.ob j a _ hj2 hy
                    refine ⟨a, vs, vv, rfl, rfl, e3, by rw [r3.length]; exact hz, ?_⟩
                    have m : MutO (.lst vs) := trivial
                    have nn := n.trans (Nx.write (x := .lst (xs ++ [v])) (o := .lst (vs ++ [vv])) n.hr n.tb hj2 e3 m ⟨_, upd_same, upd_dvs e3 m (r3.append (.cons rv .nil))⟩)
                    exact e2 G _ _ _ (fun _ m => m) (nn.lt s.hr) (s.nx nn)
                  · exact e2.elim
                | _ => exact e2.elim
            | _ => exact e2.elim
        | _ => exact e1.elim
    | _ => exact e1.elim
  | _ => exact e1.elim

/-! ### x += e -/
/-- ints, texts -/
def rIAdd : R2 := fun x y H Q => rI0 (fun i j => .int (i + j)) x y H Q ∨ (∃ i j, x = .str i ∧ y = .str j ∧ i.length + j.length ≤ sizeLine ∧ Q (.str (i ++ j)) H)
theorem iop_addA : OpR X (inplaceOp .Add) rIAdd := iop_add.or iop_add_str
def gIAdd : D → D → Option D
  | .int i, .int j => some (.int (i + j))
  | .str x, .str y => if x.length + y.length ≤ sizeLine then some (.str (x ++ y)) else none
  | _, _ => none
def gISub : D → D → Option D
  | .int i, .int j => some (.int (i - j))
  | _, _ => none
/-- what += comes to on data -/
def sAug (g : D → D → Option D) (i : Nat) (f : EX) : SX := fun S h => match S[i]? with
  | some (.d x) => thenS S (f S h) fun r h1 => match r with
    | .d y => match g x y with
      | some z => some (.nx (S.set i (.d z)) h1)
      | none => none
    | _ => none
  | _ => none
/-- data in, data out, nothing written -/
def Pi2 (X : Cx) (c : Cc) (r : R2) (g : D → D → Option D) : Prop := ∀ ρ h H x y a b z Q, HR (c.p X.K) ρ h H → LamX.Tabs c.T H → DV X.K ρ H x a → DV X.K ρ H y b → g a b = some z → (∀ H' v, Nx (c.p X.K) ρ H ρ h H' → DV X.K ρ H' v z → Q v H') → r x y H Q
theorem pi_add : Pi2 X c rIAdd gIAdd := by
  intro ρ h H x y a b z Q hr tb qa qb e k
  cases a <;> cases b <;> first | (cases e; done) | skip
  · cases e; cases qa; cases qb
    exact .inl ⟨_, _, rfl, rfl, k H _ (.refl hr tb) (.int _)⟩
  · simp only [gIAdd] at e
    split at e
    · cases e; cases qa; cases qb
      exact .inr ⟨_, _, rfl, rfl, by assumption, k H _ (.refl hr tb) (.str _)⟩
    · cases e
theorem pi_sub : Pi2 X c (rI0 fun i j => .int (i - j)) gISub := by
  intro ρ h H x y a b z Q hr tb qa qb e k
  cases a <;> cases b <;> first | (cases e; done) | skip
  cases e; cases qa; cases qb
  exact ⟨_, _, rfl, rfl, k H _ (.refl hr tb) (.int _)⟩
theorem cs_aug {op : Operator} {r : R2} {g : D → D → Option D} {i : Nat} {x : Str} {f : EX} {pos' : Pos} (hop : OpR X (inplaceOp op) r) (hp : Pi2 X c r g) (he : CE X c e f) (hN : X.N.Nodup) (hi : X.N[i]? = some x := by rfl) (hx : Loc X.env.scope x := by first | exact Or.inl rfl | exact Or.inr rfl)
    (hf : X.fn x = true ∨ X.env.scope.names.lookup x = some .local := by first | exact .inl rfl | exact .inr rfl | assumption) : CS X c (.AugAssign (.Name x pos') op e pos) (sAug g i f) := by
  refine ps_weak (ps_aug (ti := r) hN hi hx he hop hf) fun D σ H q => ?_
  obtain ⟨G, ρ, S, h, s, e⟩ := q
  unfold sAug at e
  cases hS : S[i]? with
  | none => rw [hS] at e; exact e.elim
  | some sl =>
    rw [hS] at e
    cases sl with
    | d xd =>
      simp only at e
      obtain ⟨o, ho, w, rfl, r0⟩ := s.sl i _ hS
      refine ⟨w, ho, G, ρ, S, h, s, Sd.ex s (.refl s.hr s.tb) e (rel := RV (c.p X.K)) fun v h1 ρ1 H1 vv n1 rv e1 => ?_⟩
      cases v with
      | d y =>
        simp only at e1
        cases hz : g xd y with
        | none => rw [hz] at e1; exact e1.elim
        | some z =>
          rw [hz] at e1
          refine hp ρ1 h1 H1 w vv xd y z _ n1.hr n1.tb (n1.dv s.hr r0) rv hz fun H2 v2 n2 q2 => ?_
          have n := n1.trans n2
          exact e1 G _ _ _ (fun _ m => m) (n.lt s.hr) (s.put (r := .d z) n q2 rfl)
      | _ => exact e1.elim
    | _ => exact e.elim
/-- tuples: x += e -/
theorem no_tuple_iadd : typeLookup (.type "tuple") (dunderI "add") = pure none := by kernel_rfl
theorem icat_tup {prog : Program} {w : World} {A : Around} {E : Value → Shared → Prop} {s : Shared} {t b : Addr} {vs ws : List Value} {Q : Value → Shared → Prop} (ht : IsTup s.heap t vs.toArray) (hb : IsTup s.heap b ws.toArray)
    (h0 : vs = [] → Q (.ref b) s) (h1 : vs ≠ [] → ws = [] → Q (.ref t) s) (h2 : vs ≠ [] → ws ≠ [] → Q (.ref s.heap.objs.size) { s with heap := s.heap.push { cls := .type "tuple", data := .seq (vs ++ ws).toArray } })
    (hsz : vs.length + ws.length ≤ sizeLine) : wpAny (model prog w) A (inplaceOp .Add (.ref t) (.ref b)) Q E s := by
  obtain ⟨⟨cls, dd, data, sl⟩, ho, hc, n, hd⟩ := id ht
  obtain ⟨⟨cls2, dd2, data2, sl2⟩, ho2, hc2, n2, hd2⟩ := id hb
  simp only at hc hd hc2 hd2
  subst hc hd hc2 hd2
  have e : vs.toArray ++ ws.toArray = (vs ++ ws).toArray := by simp
  refine wpAny_inplaceOp_concat ⟨_, ho, rfl⟩ ⟨_, ho2, rfl⟩ no_tuple_iadd noFill_tuple_add seq_tuple_add ?_
  by_cases hv : vs = []
  · subst hv
    exact call_meets PySem.F.slot_tuple_add ⟨_, ho, rfl⟩ PySem.F.entry_tuple_add (PySem.F.args_tuple_add_2 _ _) (tuple_addW0 t b ([] : List Value).toArray ws.toArray n n2 dd dd2 sl sl2 (by simp)) ⟨ho, ho2, h0 rfl⟩
  · by_cases hw : ws = []
    · exact call_meets PySem.F.slot_tuple_add ⟨_, ho, rfl⟩ PySem.F.entry_tuple_add (PySem.F.args_tuple_add_2 _ _) (tuple_addW1 t b vs.toArray ws.toArray n n2 dd dd2 sl sl2 (by simpa using hv) (by simp [hw])) ⟨ho, ho2, h1 hv hw⟩
    · refine call_meets PySem.F.slot_tuple_add ⟨_, ho, rfl⟩ PySem.F.entry_tuple_add (PySem.F.args_tuple_add_2 _ _) (tuple_addW2 t b vs.toArray ws.toArray n n2 dd dd2 sl sl2 (by simpa using hv) (by simpa using hw) (by rw [List.size_toArray, List.size_toArray]; exact hsz)) ⟨ho, ho2, ?_⟩
      rw [e]
      exact h2 hv hw
theorem iop_catA : OpR X (inplaceOp .Add) (rCatA X.K) := by
  intro pins s σ H x y v u Q I rx ry h
  obtain ⟨a, b, xs, ys, rfl, rfl, ha, hb, hz, q0, q1, q2⟩ := h
  cases rx
  cases ry
  obtain ⟨its, r1, p1, z1⟩ := I.tuple ha
  obtain ⟨its2, r2, p2, z2⟩ := I.tuple hb
  have hn : H s.heap.objs.size = none := I.hok.fresh (Nat.le_refl _)
  refine icat_tup p1 p2 (fun e => ⟨.ref b, H, I, rfl, q0 ((Vals.nil_iff r1).mp e)⟩) (fun e1 e2 => ⟨.ref a, H, I, rfl, q1 (fun z => e1 ((Vals.nil_iff r1).mpr z)) ((Vals.nil_iff r2).mp e2)⟩) (fun e1 e2 => ?_) (by rw [← r1.length, ← r2.length]; exact hz)
  refine ⟨.ref s.heap.objs.size, upd H s.heap.objs.size (.tup (xs ++ ys)), I.laid (t' := s.toks) (fun b u e => Heap.get?_push_of_some _ e) (Nat.le_refl _) ⟨by rw [List.length_append]; exact hz, _, r1.append r2, ⟨_, Heap.get?_push_size _ rfl, rfl, _, rfl⟩⟩, rfl,
    q2 (fun z => e1 ((Vals.nil_iff r1).mpr z)) (fun z => e2 ((Vals.nil_iff r2).mpr z)) _ hn⟩
def gICat : D → D → Option D
  | .tup xs, .tup ys => if xs.length + ys.length ≤ sizeLine then some (.tup (xs ++ ys)) else none
  | _, _ => none
theorem pi_cat : Pi2 X c (rCatA X.K) gICat := by
  intro ρ h H x y a b z Q hr tb qa qb e k
  cases a <;> cases b <;> first | (cases e; done) | skip
  simp only [gICat] at e
  split at e
  · rename_i xs ys hz
    cases e
    obtain ⟨p, vs, rfl, h1, r1⟩ := tup_of (p := c.p X.K) (Hb := H) (r := .d (.tup xs)) qa rfl
    obtain ⟨q, ws, rfl, h2, r2⟩ := tup_of (p := c.p X.K) (Hb := H) (r := .d (.tup ys)) qb rfl
    refine ⟨p, q, vs, ws, rfl, rfl, h1, h2, by rw [r1.length, r2.length]; exact hz, fun hv => ?_, fun hv hw => ?_, fun _ _ z hz => k _ _ (.alloc hr tb hz) (.tup (SqT.of upd_same) ((Ext.new hz).dvs (r1.append r2)))⟩
    · subst hv; cases r1
      exact k H _ (.refl hr tb) (.tup h2 r2)
    · subst hw; cases r2
      rw [List.append_nil] at k
      exact k H _ (.refl hr tb) (.tup h1 r1)
  · cases e
/-- a local list: x += e -/
def sExt (i : Nat) (f : EX) : SX := fun S h => match S[i]? with
  | some (.own (.lst xs)) => thenS S (f S h) fun r h1 => match lstOf r h1 with
    | some ys => if xs.length + ys.length ≤ sizeLine then some (.nx (S.set i (.own (.lst (xs ++ ys)))) h1) else none
    | none => none
  | _ => none
theorem cs_ext {i : Nat} {x : Str} {f : EX} {pos' : Pos} (he : CE X c e f) (hN : X.N.Nodup) (hi : X.N[i]? = some x := by rfl) (hx : Loc X.env.scope x := by first | exact Or.inl rfl | exact Or.inr rfl)
    (hf : X.fn x = true ∨ X.env.scope.names.lookup x = some .local := by first | exact .inl rfl | exact .inr rfl | assumption) : CS X c (.AugAssign (.Name x pos') .Add e pos) (sExt i f) := by
  refine ps_weak (ps_aug (ti := rExt2) hN hi hx he iop_ext hf) fun D σ H q => ?_
  obtain ⟨G, ρ, S, h, s, e⟩ := q
  unfold sExt at e
  cases hS : S[i]? with
  | none => rw [hS] at e; exact e.elim
  | some sl =>
    rw [hS] at e
    cases sl with
    | own n =>
      cases n with
      | lst xs =>
        simp only at e
        obtain ⟨o, ho, a, rfl, m, z, na, g⟩ := s.sl i _ hS
        obtain ⟨vs, e0, r0⟩ := m
        refine ⟨_, ho, G, ρ, S, h, s, Sd.ex s (.refl s.hr s.tb) e (rel := RV (c.p X.K)) fun v h1 ρ1 H1 vv n1 rv e1 => ?_⟩
        cases hl : lstOf v h1 with
        | none => simp only [hl] at e1; exact e1.elim
        | some ys =>
          simp only [hl] at e1
          split at e1
          · rename_i hz
            obtain ⟨b, ws, rfl, e2, r2⟩ := lst_of n1.hr rv hl
            have e01 := n1.fr a _ e0 (fun _ z => nomatch z) na
            refine ⟨a, b, vs, ws, rfl, rfl, e01, e2, by rw [r0.length, r2.length]; exact hz, ?_⟩
            obtain ⟨s3, l3⟩ := (s.nx n1).write (k' := .lst (xs ++ ys)) (o := .lst (vs ++ ws)) hS ho fun ⟨w, hw, mw⟩ => ⟨_, upd_same, upd_dvs hw mw ((n1.dvs s.hr r0).append r2)⟩
            have same : σ.set i (some (V.ref a)) = σ := by
              apply List.ext_getElem?
              intro j
              by_cases hj : j = i
              · subst hj
                rw [List.getElem?_set_self (List.getElem?_eq_some_iff.mp ho).1, ho]
              · rw [List.getElem?_set_ne (Ne.symm hj)]
            show D.nx (σ.set i (some (V.ref a))) _
            rw [same]
            exact e1 G _ _ _ (fun _ m => m) ((n1.lt s.hr).trans l3) s3
          · exact e1.elim
      | _ => exact e.elim
    | _ => exact e.elim
end
end Sh
set_option Elab.async false
set_option linter.all false
set_option maxRecDepth 100000
namespace Sh
open PySem PySem.Spec PyProof.Rows L2

/-! ### targets -/
abbrev TGx := D → Env' → Option Env'
abbrev TGsx := List D → Env' → Option Env'
def tG (K : PySem.W.Frag) (c : Cc) (ts : List Nat) (g : TGx) : TG := fun v σ H Q => ∃ G ρ S h d, Stt (c.p K) c.ρ0 c.H0 G ρ S h σ H ∧ DV K ρ H v d ∧ match g d S with
  | none => False
  | some S' => ∀ σ', σ'.length = σ.length → (∀ k, k ∉ ts → σ'[k]? = σ[k]?) → Stt (c.p K) c.ρ0 c.H0 G ρ S' h σ' H → Q σ' H
def tGs (K : PySem.W.Frag) (c : Cc) (ts : List Nat) (g : TGsx) : TGs := fun vs σ H Q => ∃ G ρ S h ds, Stt (c.p K) c.ρ0 c.H0 G ρ S h σ H ∧ DVs K ρ H vs ds ∧ match g ds S with
  | none => False
  | some S' => ∀ σ', σ'.length = σ.length → (∀ k, k ∉ ts → σ'[k]? = σ[k]?) → Stt (c.p K) c.ρ0 c.H0 G ρ S' h σ' H → Q σ' H
abbrev CG (X : Cx) (c : Cc) (tg : Expr) (ts : List Nat) (g : TGx) : Prop := PG X tg (tG X.K c ts g)
abbrev CGs (X : Cx) (c : Cc) (tg : List Expr) (ts : List Nat) (g : TGsx) : Prop := PGs X tg (tGs X.K c ts g)
def gNm (i : Nat) : TGx := fun d S => some (S.set i (.d d))
def gNilD : TGsx := fun ds S => match ds with
  | [] => some S
  | _ => none
def gConsD (g : TGx) (gs : TGsx) : TGsx := fun ds S => match ds with
  | d :: ds => match g d S with
    | some S1 => gs ds S1
    | none => none
  | [] => none
def gTupD (n : Nat) (gs : TGsx) : TGx := fun d S => match d with
  | .tup ds => if ds.length = n then gs ds S else none
  | _ => none
section
variable {X : Cx} {c : Cc} {e eo ei tg : Expr} {pos : Pos}
theorem pg_weak {t t' : TG} (he : PG X tg t) (h : ∀ v σ H Q, t' v σ H Q → t v σ H Q) : PG X tg t' := by
  refine ⟨?_⟩
  intro pins s σ H v u Q I r q
  exact he.run pins s σ H v u Q I r (h v σ H Q q)
theorem pgs_weak {tgs : List Expr} {t t' : TGs} (he : PGs X tgs t) (h : ∀ v σ H Q, t' v σ H Q → t v σ H Q) : PGs X tgs t' := by
  refine ⟨?_⟩
  intro pins s σ H v u Q I r q
  exact he.run pins s σ H v u Q I r (h v σ H Q q)
theorem cg_name {i : Nat} {x : Str} (hN : X.N.Nodup) (hi : X.N[i]? = some x := by rfl) (hx : Loc X.env.scope x := by first | exact Or.inl rfl | exact Or.inr rfl) (hf : X.fn x = true ∨ X.env.scope.names.lookup x = some .local := by first | exact .inl rfl | exact .inr rfl | assumption) :
    CG X c (.Name x pos) [i] (gNm i) := by
  refine pg_weak (pg_name hN hi hx hf) fun v σ H Q q => ?_
  obtain ⟨G, ρ, S, h, d, s, r, k⟩ := q
  exact k _ (by rw [List.length_set]) (fun j hj => List.getElem?_set_ne (fun z => hj (by simp [z]))) (s.put (r := .d d) (.refl s.hr s.tb) r rfl)
theorem cgs_nil {ts : List Nat} : CGs X c [] ts gNilD := by
  refine pgs_weak pgs_nil fun v σ H Q q => ?_
  obtain ⟨G, ρ, S, h, d, s, r, k⟩ := q
  cases r with
  | nil => exact ⟨rfl, k σ rfl (fun _ _ => rfl) s⟩
  | cons _ _ => exact k.elim
theorem cgs_cons {ts us : List Nat} {tgs : List Expr} {g : TGx} {gs : TGsx} (h1 : CG X c tg ts g) (h2 : CGs X c tgs us gs) (hs : (assignEach (tg :: tgs) X.env).map (·.2) = assign tg X.env :: (assignEach tgs X.env).map (·.2) := by rfl) : CGs X c (tg :: tgs) (ts ++ us) (gConsD g gs) := by
  refine pgs_weak (pgs_cons h1 h2 hs) fun v σ H Q q => ?_
  obtain ⟨G, ρ, S, h, d, s, r, k⟩ := q
  cases r with
  | nil => exact k.elim
  | cons r0 r =>
    rename_i v d vs ds
    simp only [gConsD] at k
    cases hg : g d S with
    | none => rw [hg] at k; exact k.elim
    | some S1 =>
      rw [hg] at k
      refine ⟨v, vs, rfl, G, ρ, S, h, d, s, r0, ?_⟩
      rw [hg]
      intro σ1 hl ho s1
      refine ⟨G, ρ, S1, h, ds, s1, r, ?_⟩
      cases hgs : gs ds S1 with
      | none => simp only [hgs] at k
      | some S2 =>
        simp only [hgs] at k
        exact fun σ2 hl2 ho2 s2 => k σ2 (hl2.trans hl) (fun j hj => (ho2 j fun z => hj (List.mem_append_right _ z)).trans (ho j fun z => hj (List.mem_append_left _ z))) s2
theorem cg_tup {ts : List Nat} {tgs : List Expr} {k n : Nat} {gs : TGsx} (hc : X.calm = true) (h : CGs X c tgs ts gs) (hn : (assignEach tgs X.env).length = n := by rfl) (hst : (assignEach tgs X.env).findIdx? (·.1) = none := by rfl) : CG X c (.Tuple tgs k pos) ts (gTupD n gs) := by
  refine pg_weak (pg_tup hc h hn hst) fun v σ H Q q => ?_
  obtain ⟨G, ρ, S, h, d, s, r, k⟩ := q
  cases d with
  | tup ds =>
    simp only [gTupD] at k
    split at k
    · exact k.elim
    · rename_i S' hS'
      split at hS'
      · rename_i hl
        cases r with
        | tup hs r =>
          refine ⟨_, _, rfl, hs, by rw [r.length]; exact hl, G, ρ, S, h, ds, s, r, ?_⟩
          rw [hS']
          exact k
      · cases hS'
  | _ => exact k.elim
/-- target = e -/
def sAsg (g : TGx) (f : EX) : SX := fun S h => thenS S (f S h) fun r h1 => match r with
  | .d d => match g d S with
    | some S' => some (.nx S' h1)
    | none => none
  | _ => none
theorem cs_asg {ts : List Nat} {g : TGx} {f : EX} (he : CE X c e f) (hg : CG X c tg ts g) (hs : swapsWithSole [tg] e pos.line X.env = pure false := by rfl) (hw : swappedStores [tg] e X.env = pure none := by rfl)
    (h1 : (assignEach [tg] X.env).map (·.2) = [assign tg X.env] := by rfl) : CS X c (.Assign [tg] e pos) (sAsg g f) := by
  refine ps_weak (ps_asg he hg hs hw h1) fun D σ H q => ?_
  obtain ⟨G, ρ, S, h, s, e⟩ := q
  refine ⟨G, ρ, S, h, s, Sd.ex s (.refl s.hr s.tb) e (rel := RV (c.p X.K)) fun v h1 ρ1 H1 vv n1 rv e1 => ?_⟩
  cases v with
  | d d =>
    simp only at e1
    refine ⟨G, ρ1, S, h1, d, s.nx n1, rv, ?_⟩
    cases hg : g d S with
    | none => rw [hg] at e1; exact e1
    | some S' => rw [hg] at e1; exact fun σ' _ _ s' => e1 G _ _ _ (fun _ m => m) (n1.lt s.hr) s'
  | _ => exact e1.elim

/-! ### what is walked -/
/-- an iterator gives these data, one a turn; fz: what its objects may be -/
def ItR (p : Pm) (fz : Addr → HO → Prop) (ρ : List Addr) (H : Hp) (J : It) (ds : List D) : Prop :=
  ∃ (Gd : Hp → Prop) (Y : Nat → Hp → V → Hp → Prop) (supp : List (Addr × HO)), Walk J ds.length Gd Y ∧ (∀ q ∈ supp, H q.1 = some q.2 ∧ NoTbl q.2 ∧ q.1 ∉ ρ ∧ fz q.1 q.2) ∧ (∀ H', (∀ q ∈ supp, H' q.1 = some q.2) → Gd H') ∧
    ∀ i ρ1 h1 H1 x H1', Lt p.K ρ H ρ1 H1 → (∀ q ∈ supp, H1 q.1 = some q.2) → HR p ρ1 h1 H1 → LamX.Tabs p.T H1 → i < ds.length → Y i H1 x H1' → Nx p ρ1 H1 ρ1 h1 H1' ∧ ∃ d, ds[i]? = some d ∧ DV p.K ρ1 H1' x d
abbrev IX := Env' → Hs → Option (Rs (List D))
/-- in an expression; in a statement -/
abbrev FZ := List (Addr × HO) → Hp → Addr → HO → Prop
def fzE : FZ := fun _ _ _ _ => True
def fzS (c : Cc) : FZ := fun G Hb a o => Hb a = none ∨ ¬ MutO o ∨ Kn G c.H0 a
def tI (K : PySem.W.Frag) (c : Cc) (fz : FZ) (f : IX) : TI := fun σ H R => ∃ G ρ S h, Stt (c.p K) c.ρ0 c.H0 G ρ S h σ H ∧
  Ed (c.p K) (fun cls d H' => c.W cls d σ H') ρ H (f S h) (fun ρ' Hb H' J ds => ItR (c.p K) (fz G Hb) ρ' H' J ds) R
abbrev CI (X : Cx) (c : Cc) (fz : FZ) (tg e : Expr) (f : IX) : Prop := PI X tg e (tI X.K c fz f)
theorem pi_weak {t t' : TI} (he : PI X tg e t) (h : ∀ σ H R, t' σ H R → t σ H R) : PI X tg e t' := by
  refine ⟨?_⟩
  intro pins s σ H R I q
  exact he.run pins s σ H R I (h σ H R q)
/-- a list, a tuple, a text -/
def iAny (K : PySem.W.Frag) (te : TE) : TI := fun σ H R => te σ H fun v H1 => (∃ a, v = .ref a ∧ (∃ xs, SqL K H1 a xs) ∧ R (Itl K a) H1) ∨ (∃ a, v = .ref a ∧ (∃ xs, SqT K H1 a xs) ∧ R (Itt K a) H1) ∨ (∃ x, v = .str x ∧ R (Its x) H1)
theorem pi_any {te : TE} (he : PE X e te) : PI X tg e (iAny X.K te) := by
  refine ⟨fun pins s σ H R I h => ?_⟩
  refine thn (he.run pins s σ H _ I h) fun v s1 ⟨x, H1, I1, r1, q1⟩ => ?_
  rcases q1 with ⟨a, e, ⟨xs, hq⟩, q⟩ | ⟨a, e, ⟨xs, hq⟩, q⟩ | ⟨x, ex, q⟩
  · subst e
    cases r1
    obtain ⟨its, rv, p, hz⟩ := I1.list hq
    refine wpAny_pyIter_list p.isList ?_
    refine ⟨s1.heap.objs.size, [s1.heap.objs.size], _, _, H1, rfl, I1.kept (t' := s1.toks) fun b o e => Heap.get?_push_of_some _ e, turn_list a _, ⟨_, Heap.get?_push_size _ rfl, rfl, rfl⟩, fun b hb => ?_, q⟩
    have e : b = s1.heap.objs.size := by simpa using hb
    subst e
    exact I1.fpOk (Nat.le_refl _) (I1.hok.fresh (Nat.le_refl _))
  · subst e
    cases r1
    obtain ⟨its, rv, p, hz⟩ := I1.tuple hq
    refine wpAny_pyIter_tuple (show s1.heap.IsTuple a its.toArray from p) ?_
    refine ⟨s1.heap.objs.size, [s1.heap.objs.size], _, _, H1, rfl, I1.kept (t' := s1.toks) fun b o e => Heap.get?_push_of_some _ e, turn_tuple a _, ⟨_, Heap.get?_push_size _ rfl, rfl, rfl⟩, fun b hb => ?_, q⟩
    have e : b = s1.heap.objs.size := by simpa using hb
    subst e
    exact I1.fpOk (Nat.le_refl _) (I1.hok.fresh (Nat.le_refl _))
  · subst ex
    obtain ⟨t, rfl⟩ := r1
    cases ha : x.cps.all (· < 128)
    · exact wpAny_pyIter_wide ha (pi_one (tk := s1.toks) I1 _ (turn_str _ x t "str_iterator" (.inr rfl)) ⟨_, Heap.get?_push_size _ rfl, rfl, rfl⟩ q)
    · exact wpAny_pyIter_ascii ha (pi_one (tk := s1.toks) I1 _ (turn_str _ x t "str_ascii_iterator" (.inl rfl)) ⟨_, Heap.get?_push_size _ rfl, rfl, rfl⟩ q)
def signs (z : Str) : List D := z.cps.toList.map fun n => .str ⟨#[n]⟩
/-- the items of what an expression gave -/
def itemsE : R → Option (List D)
  | .d (.tup xs) => some xs
  | .d (.str z) => some (signs z)
  | .new (.lst xs) => some xs
  | .bor (.lst xs) => some xs
  | .bor (.fz xs) => some xs
  | _ => none
def itemsS : R → Option (List D)
  | .bor (.lst _) => none
  | r => itemsE r
theorem itR_str {p : Pm} {fz : Addr → HO → Prop} {ρ : List Addr} {H : Hp} {z : Str} : ItR p fz ρ H (Its z) (signs z) := by
  have e : (signs z).length = z.cps.size := by simp [signs]
  refine ⟨fun _ => True, _, [], by rw [e]; exact walk_str, fun _ m => absurd m (by simp), fun _ _ => trivial, fun i ρ1 h1 H1 x H1' l _ hr tb hi y => ?_⟩
  obtain ⟨rfl, n, hn, rfl⟩ := y
  refine ⟨.refl hr tb, .str ⟨#[n]⟩, ?_, .str _⟩
  simp only [signs, List.getElem?_map, Array.getElem?_toList, hn, Option.map_some]
theorem itR_seq {p : Pm} {fz : Addr → HO → Prop} {ρ : List Addr} {H : Hp} {a : Addr} {vs : List V} {ds : List D} {J : It} {Gd : Hp → Prop} (supp : List (Addr × HO)) (w : Walk J vs.length Gd (YAt vs)) (r : DVs p.K ρ H vs ds) (hs : ∀ q ∈ supp, H q.1 = some q.2 ∧ NoTbl q.2 ∧ q.1 ∉ ρ ∧ fz q.1 q.2)
    (hg : ∀ H', (∀ q ∈ supp, H' q.1 = some q.2) → Gd H') : ItR p fz ρ H J ds := by
  refine ⟨Gd, _, supp, by rw [← r.length]; exact w, hs, hg, fun i ρ1 h1 H1 x H1' l _ hr tb hi y => ?_⟩
  obtain ⟨rfl, hx⟩ := y
  obtain ⟨d, h1, h2⟩ := (l.dvs r).get hx
  exact ⟨.refl hr tb, d, h1, h2⟩
theorem KL.sql {K : PySem.W.Frag} {H : Hp} {a : Addr} {vs : List V} (h : KL K a vs) : SqL K H a vs := .inr h
theorem itR_fz {p : Pm} {fz : Addr → HO → Prop} {ρ : List Addr} {H : Hp} {kn : Addr → Prop} {a : Addr} {ds : List D} (q : BR p ρ H kn a (.fz ds)) (hf : ∀ o vs, fz a (.frz o (.lst vs))) : (∃ xs, SqL p.K H a xs) ∧ ItR p fz ρ H (Itl p.K a) ds := by
  obtain ⟨vs, r, k | ⟨⟨o, k⟩, na, _⟩⟩ := q
  · exact ⟨⟨vs, .inr k⟩, itR_seq (a := a) [] (walk_list (xs := vs)) r (fun _ m => absurd m (by simp)) fun _ _ => .inr k⟩
  · refine ⟨⟨vs, .inl (.inr ⟨o, k⟩)⟩, itR_seq (a := a) [(a, .frz o (.lst vs))] (walk_list (xs := vs)) r (fun q m => ?_) fun H' hq => ?_⟩
    · simp only [List.mem_singleton] at m; subst m
      exact ⟨k, (by intro ps z; cases z), na, hf o vs⟩
    · exact .inl (.inr ⟨o, hq _ (List.mem_singleton.mpr rfl)⟩)
theorem itR_tup {p : Pm} {fz : Addr → HO → Prop} {ρ : List Addr} {h : Hs} {H : Hp} {a : Addr} {vs : List V} {ds : List D} (hr : HR p ρ h H) (hs : SqT p.K H a vs) (r : DVs p.K ρ H vs ds) (hf : ∀ o, ¬ MutO o → fz a o) : ItR p fz ρ H (Itt p.K a) ds := by
  rcases hs with (k | ⟨o, k⟩) | k
  · refine itR_seq (a := a) [(a, .tup vs)] (walk_tup (xs := vs)) r (fun q m => ?_) fun H' hq => .inl (.inl (hq _ (List.mem_singleton.mpr rfl)))
    simp only [List.mem_singleton] at m; subst m
    exact ⟨k, (by intro ps z; cases z), rd_not (hr := hr) (u := .tup vs) (o := .tup vs) k (fun z => z), hf _ (fun z => z)⟩
  · refine itR_seq (a := a) [(a, .frz o (.tup vs))] (walk_tup (xs := vs)) r (fun q m => ?_) fun H' hq => .inl (.inr ⟨o, hq _ (List.mem_singleton.mpr rfl)⟩)
    simp only [List.mem_singleton] at m; subst m
    exact ⟨k, (by intro ps z; cases z), rd_not (hr := hr) (u := .tup vs) (o := .frz o (.tup vs)) k (fun z => z), hf _ (fun z => z)⟩
  · exact itR_seq (a := a) [] (walk_tup (xs := vs)) r (fun _ m => absurd m (by simp)) fun _ _ => .inr k
theorem itR_lst {p : Pm} {fz : Addr → HO → Prop} {ρ : List Addr} {H : Hp} {a : Addr} {vs : List V} {ds : List D} (hs : H a = some (.lst vs)) (na : a ∉ ρ) (r : DVs p.K ρ H vs ds) (hf : fz a (.lst vs)) : ItR p fz ρ H (Itl p.K a) ds := by
  refine itR_seq (a := a) [(a, .lst vs)] (walk_list (xs := vs)) r (fun q m => ?_) fun H' hq => SqL.of (hq _ (List.mem_singleton.mpr rfl))
  simp only [List.mem_singleton] at m; subst m
  exact ⟨hs, (by intro ps z; cases z), na, hf⟩
def iE (g : R → Option (List D)) (f : EX) : IX := fun S h => andThen (f S h) fun r h1 => lift (g r) h1
theorem ci_E {f : EX} (he : CE X c e f) : CI X c fzE tg e (iE itemsE f) := by
  refine pi_weak (pi_any he) fun σ H R q => ?_
  obtain ⟨G, ρ, S, h, s, e⟩ := q
  refine ⟨G, ρ, S, h, s, e.bind (rel := RV (c.p X.K)) fun r h1 ρ1 H1 v n1 rv e1 => ?_⟩
  cases hi : itemsE r with
  | none => rw [hi] at e1; exact e1.elim
  | some ds =>
    rw [hi] at e1
    have k := fun J (z : ItR (c.p X.K) (fzE G H) ρ1 H1 J ds) => e1 ρ1 H1 J n1 z
    cases r with
    | d x =>
      cases x with
      | tup xs =>
        cases hi
        obtain ⟨a, vs, rfl, h2, r2⟩ := tup_of rv rfl
        exact .inr (.inl ⟨a, rfl, ⟨vs, h2⟩, k _ (itR_tup n1.hr h2 r2 fun _ _ => trivial)⟩)
      | str z => cases hi; cases rv; exact .inr (.inr ⟨z, rfl, k _ itR_str⟩)
      | _ => cases hi
    | new kk =>
      cases kk with
      | lst xs =>
        cases hi
        obtain ⟨a, rfl, z, na, vs, h2, r2⟩ := rv
        exact .inl ⟨a, rfl, ⟨vs, SqL.of h2⟩, k _ (itR_lst h2 na r2 trivial)⟩
      | _ => cases hi
    | bor kk =>
      cases kk with
      | lst xs =>
        cases hi
        obtain ⟨a, rfl, vs, r2, h2, na, _⟩ := rv
        exact .inl ⟨a, rfl, ⟨vs, SqL.of h2⟩, k _ (itR_lst h2 na r2 trivial)⟩
      | fz xs =>
        cases hi
        obtain ⟨a, rfl, br⟩ := rv
        obtain ⟨h2, h3⟩ := itR_fz (fz := fzE G H) br fun _ _ => trivial
        exact .inl ⟨a, rfl, h2, k _ h3⟩
      | dct xs => cases hi
theorem ci_S {f : EX} (he : CE X c e f) : CI X c (fzS c) tg e (iE itemsS f) := by
  refine pi_weak (pi_any he) fun σ H R q => ?_
  obtain ⟨G, ρ, S, h, s, e⟩ := q
  refine ⟨G, ρ, S, h, s, e.bind (rel := RV (c.p X.K)) fun r h1 ρ1 H1 v n1 rv e1 => ?_⟩
  cases hi : itemsS r with
  | none => rw [hi] at e1; exact e1.elim
  | some ds =>
    rw [hi] at e1
    have k := fun J (z : ItR (c.p X.K) (fzS c G H) ρ1 H1 J ds) => e1 ρ1 H1 J n1 z
    cases r with
    | d x =>
      cases x with
      | tup xs =>
        cases hi
        obtain ⟨a, vs, rfl, h2, r2⟩ := tup_of rv rfl
        exact .inr (.inl ⟨a, rfl, ⟨vs, h2⟩, k _ (itR_tup n1.hr h2 r2 fun _ z => .inr (.inl z))⟩)
      | str z => cases hi; cases rv; exact .inr (.inr ⟨z, rfl, k _ itR_str⟩)
      | _ => cases hi
    | new kk =>
      cases kk with
      | lst xs =>
        cases hi
        obtain ⟨a, rfl, z, na, vs, h2, r2⟩ := rv
        exact .inl ⟨a, rfl, ⟨vs, SqL.of h2⟩, k _ (itR_lst h2 na r2 (.inl z))⟩
      | _ => cases hi
    | bor kk =>
      cases kk with
      | lst xs => cases hi
      | fz xs =>
        cases hi
        obtain ⟨a, rfl, br⟩ := rv
        obtain ⟨h2, h3⟩ := itR_fz (fz := fzS c G H) br fun _ _ => .inr (.inl fun z => z)
        exact .inl ⟨a, rfl, h2, k _ h3⟩
      | dct xs => cases hi
/-- range(n), range(a, b) -/
def rangeD (a b : Int) : List D := (List.range (b - a).toNat).map fun i => .int (a + (i : Nat))
noncomputable def inRg (n : Int) : Bool := @decide (-(2 ^ 62) ≤ n ∧ n < 2 ^ 62) (Classical.propDecidable _)
theorem inRg_ok {n : Int} (h1 : -4611686018427387904 ≤ n) (h2 : n < 4611686018427387904) : inRg n = true := @decide_eq_true _ (Classical.propDecidable _) ⟨h1, h2⟩
noncomputable def iRg1 (f : EX) : IX := fun S h => andThen (f S h) fun r h1 => match intOf r with
  | some n => if inRg n = true then some (.ok (rangeD 0 n) h1) else none
  | _ => none
noncomputable def iRg2 (f : AX) : IX := fun S h => andThen (f S h) fun rs h1 => match rs with
  | [a, b] => match intOf a, intOf b with
    | some a, some b => if (inRg a && inRg b) = true then some (.ok (rangeD a b) h1) else none
    | _, _ => none
  | _ => none
theorem inRg_of {n : Int} (h : inRg n = true) : -(2 ^ 62) ≤ n ∧ n < 2 ^ 62 := @of_decide_eq_true _ (Classical.propDecidable _) h
theorem itR_range {p : Pm} {fz : Addr → HO → Prop} {ρ : List Addr} {H : Hp} {a b : Int} : ItR p fz ρ H (Itr a (b - a).toNat) (rangeD a b) := by
  have e : (rangeD a b).length = (b - a).toNat := by simp [rangeD]
  refine ⟨fun _ => True, _, [], by rw [e]; exact walk_range, fun _ m => absurd m (by simp), fun _ _ => trivial, fun i ρ1 h1 H1 x H1' l _ hr tb hi y => ?_⟩
  obtain ⟨rfl, rfl⟩ := y
  refine ⟨.refl hr tb, .int (a + (i : Nat)), ?_, .int _⟩
  rw [e] at hi
  simp [rangeD, hi]
theorem ci_range1 {fz : FZ} {f : EX} {p : Pos} (hg : Gl X "range") (hm : X.mg "range" = none) (ha : CE X c e f) (hs : starEach [e] X.env = [(false, eval e X.env)] := by rfl) (hs0 : starEach [e] X.env = (false, eval e X.env) :: starEach [] X.env := by rfl) : CI X c fz tg (.Call (.Name "range" p) [e] [] pos) (iRg1 f) := by
  refine pi_weak (pi_range1 hg hm (pa_cons ha pa_nil hs0) hs) fun σ H R q => ?_
  obtain ⟨G, ρ, S, h, s, e⟩ := q
  refine ⟨G, ρ, S, h, s, e.bind (rel := RV (c.p X.K)) fun r h1 ρ1 H1 v n1 rv e1 => ?_⟩
  cases hi : intOf r with
  | none => rw [hi] at e1; exact e1.elim
  | some n =>
    rw [hi] at e1
    simp only at e1
    split at e1
    · rename_i hz
      have hz := inRg_of hz
      have z := itR_range (p := c.p X.K) (fz := fz G H) (ρ := ρ1) (H := H1) (a := 0) (b := n)
      have k := e1 ρ1 H1 _ n1 z
      rw [Int.sub_zero] at k
      exact ⟨n, by rw [int_of rv hi], hz.1, hz.2, k⟩
    · exact e1.elim
theorem ci_range2 {fz : FZ} {f : AX} {p : Pos} {b : Expr} (hg : Gl X "range") (hm : X.mg "range" = none) (ha : CA X c [e, b] f) (hs : starEach [e, b] X.env = [(false, eval e X.env), (false, eval b X.env)] := by rfl) (hs2 : starEach [b] X.env = [(false, eval b X.env)] := by rfl) : CI X c fz tg (.Call (.Name "range" p) [e, b] [] pos) (iRg2 f) := by
  refine pi_weak (pi_range2 hg hm ha hs hs2) fun σ H R q => ?_
  obtain ⟨G, ρ, S, h, s, e⟩ := q
  refine ⟨G, ρ, S, h, s, e.bind (rel := RVs (c.p X.K)) fun rs h1 ρ1 H1 vs n1 rv e1 => ?_⟩
  cases rv with
  | nil => exact e1.elim
  | cons q1 t =>
    cases t with
    | nil => exact e1.elim
    | cons q2 t =>
      cases t with
      | cons _ _ => exact e1.elim
      | nil =>
        rename_i x a y b
        simp only at e1
        cases ia : intOf a with
        | none => rw [ia] at e1; exact e1.elim
        | some i =>
          cases ib : intOf b with
          | none => rw [ia, ib] at e1; exact e1.elim
          | some j =>
            rw [ia, ib] at e1
            simp only at e1
            split at e1
            · rename_i hz
              rw [Bool.and_eq_true] at hz
              have za := inRg_of hz.1
              have zb := inRg_of hz.2
              exact ⟨i, j, by rw [int_of q1 ia, int_of q2 ib], ⟨za.1, za.2, zb.1, zb.2⟩, e1 ρ1 H1 _ n1 (itR_range (p := c.p X.K) (fz := fz G H) (ρ := ρ1) (H := H1) (a := i) (b := j))⟩
            · exact e1.elim
/-- a variable that is not the def's own list -/
def itemsV : Option Sl → Option (List D)
  | some (.d (.tup xs)) => some xs
  | some (.d (.str z)) => some (signs z)
  | some (.bor (.lst xs)) => some xs
  | some (.bor (.fz xs)) => some xs
  | _ => none
def iV (i : Nat) : IX := fun S h => lift (itemsV S[i]?) h
theorem ci_V {i : Nat} {x : Str} (hN : X.N[i]? = some x := by rfl) (hv : Vis X.env.scope x := by first | exact Or.inl rfl | exact Or.inr (Or.inl rfl) | exact Or.inr (Or.inr rfl)) (hd : (x == ("__debug__" : Str)) = false := by decide)
    (hcd : (x == ("__classdict__" : Str)) = false := by decide) : CI X c (fzS c) tg (.Name x pos) (iV i) := by
  refine pi_weak (pi_any (pe_var hN hv hd hcd)) fun σ H R q => ?_
  obtain ⟨G, ρ, S, h, s, e⟩ := q
  unfold iV at e
  cases hS : S[i]? with
  | none => rw [hS] at e; exact e.elim
  | some sl =>
    rw [hS] at e
    obtain ⟨o, ho, v⟩ := s.sl i sl hS
    have n0 : Nx (c.p X.K) ρ H ρ h H := .refl s.hr s.tb
    cases sl with
    | d x =>
      obtain ⟨w, rfl, r⟩ := v
      cases x with
      | tup xs =>
        obtain ⟨a, vs, rfl, h2, r2⟩ := tup_of (p := c.p X.K) (ρ := ρ) (Hb := H) (H := H) (r := .d (.tup xs)) r rfl
        exact ⟨_, ho, .inr (.inl ⟨a, rfl, ⟨vs, h2⟩, e ρ H _ n0 (itR_tup s.hr h2 r2 fun _ z => .inr (.inl z))⟩)⟩
      | str z => cases r; exact ⟨_, ho, .inr (.inr ⟨z, rfl, e ρ H _ n0 itR_str⟩)⟩
      | _ => exact e.elim
    | bor k =>
      cases k with
      | lst xs =>
        obtain ⟨a, rfl, vs, r2, h2, na, kn⟩ := v
        exact ⟨_, ho, .inl ⟨a, rfl, ⟨vs, SqL.of h2⟩, e ρ H _ n0 (itR_lst h2 na r2 (.inr (.inr kn)))⟩⟩
      | fz xs =>
        obtain ⟨a, rfl, br⟩ := v
        obtain ⟨h2, h3⟩ := itR_fz (fz := fzS c G H) br fun _ _ => .inr (.inl fun z => z)
        exact ⟨_, ho, .inl ⟨a, rfl, h2, e ρ H _ n0 h3⟩⟩
      | dct xs => exact e.elim
    | _ => exact e.elim
end
end Sh
set_option Elab.async false
set_option linter.all false
set_option maxRecDepth 100000
namespace Sh
open PySem PySem.Spec PyProof.Rows L2

/-! ### for -/
section
variable {X : Cx} {c : Cc} {e eo ei tg : Expr} {pos : Pos}
def forL (g : TGx) (f : SX) : List D → SX
  | [] => fun S h => some (.nx S h)
  | d :: ds => fun S h => match g d S with
    | none => none
    | some S1 => match f S1 h with
      | some (.nx S2 h2) => forL g f ds S2 h2
      | some (.ct S2 h2) => forL g f ds S2 h2
      | some (.brk S2 h2) => some (.nx S2 h2)
      | r => r
def sFor (i : IX) (g : TGx) (f : SX) : SX := fun S h => thenS S (i S h) fun ds h1 => forL g f ds S h1
/-- more is held -/
theorem SV.hold {p : Pm} {ρ : List Addr} {G supp : List (Addr × HO)} {H0 H : Hp} {s : Sl} {o : Option V} (v : SV p ρ G H0 H s o) (hs : ∀ k a, s = .own k → o = some (.ref a) → ∀ q ∈ supp, q.1 ≠ a) : SV p ρ (G ++ supp) H0 H s o := by
  cases s with
  | none => trivial
  | d x => exact v
  | own k =>
    obtain ⟨a, e, m, z, na, g⟩ := v
    refine ⟨a, e, m, z, na, fun q hq => ?_⟩
    rcases List.mem_append.mp hq with hq | hq
    · exact g q hq
    · exact hs k a rfl e q hq
  | bor k =>
    obtain ⟨a, e, m⟩ := v
    refine ⟨a, e, m.imp fun z => ?_⟩
    rcases z with z | ⟨q, hq, z⟩
    · exact .inl z
    · exact .inr ⟨q, List.mem_append_left _ hq, z⟩
theorem Stt.hold {c : Cc} {p : Pm} {ρ0 ρ ρ1 : List Addr} {G supp : List (Addr × HO)} {S : Env'} {σ : L2.St} {h h1 : Hs} {H H1 : Hp} (s : Stt p ρ0 c.H0 G ρ S h σ H) (n : Nx p ρ H ρ1 h1 H1) (hs : ∀ q ∈ supp, H1 q.1 = some q.2 ∧ NoTbl q.2 ∧ q.1 ∉ ρ1 ∧ fzS c G H q.1 q.2) :
    Stt p ρ0 c.H0 (G ++ supp) ρ1 S h1 σ H1 := by
  have t := s.nx n
  refine { t with gh := fun q hq => ?_, sl := fun i sl hi => ?_ }
  · rcases List.mem_append.mp hq with hq | hq
    · exact t.gh q hq
    · exact ⟨(hs q hq).1, (hs q hq).2.1, (hs q hq).2.2.1⟩
  · obtain ⟨o, eo, v⟩ := t.sl i sl hi
    refine ⟨o, eo, v.hold fun k a es ea q hq eq => ?_⟩
    obtain ⟨h1, _, _, h4⟩ := hs q hq
    subst es
    obtain ⟨b, eb, m, z0, _, gg⟩ := v
    rw [ea] at eb; cases eb
    obtain ⟨u, e1, e2⟩ := m.mut
    rcases h4 with z | z | z
    · obtain ⟨o', eo', v'⟩ := s.sl i _ hi
      obtain ⟨b', eb', m', _⟩ := v'
      rw [eo] at eo'; cases eo'
      rw [ea] at eb'; cases eb'
      obtain ⟨u', e1', _⟩ := m'.mut
      rw [← eq, z] at e1'; cases e1'
    · rw [← eq, h1] at e1; cases e1; exact z e2
    · rw [eq] at z
      rcases z with z | ⟨q2, hq2, z⟩
      · exact z z0
      · exact gg q2 hq2 z
theorem cs_for {ts : List Nat} {g : TGx} {f : SX} {i : IX} {body : List Stmt} (hp : PassesOwn (model X.prog X.w) X.A X.env X.xe) (hc : X.calm = true) (hi : CI X c (fzS c) tg e i) (hg : CG X c tg ts g) (hb : CSs X c body f)
    (hs : ∀ x, foldedSetIterable e X.env x = pure x := by intro _; rfl) : CS X c (.For tg e body [] pos) (sFor i g f) := by
  refine ps_weak (ps_for hp hc hi hg hb hs) fun D σ H q => ?_
  obtain ⟨G, ρ, S, h, s, e⟩ := q
  refine ⟨G, ρ, S, h, s, Sd.ex s (.refl s.hr s.tb) e (rel := fun ρ' Hb H' J ds => ItR (c.p X.K) (fzS c G Hb) ρ' H' J ds) fun ds h1 ρ1 H1 J n1 it e1 => ?_⟩
  obtain ⟨Gd, Y, supp, w, hsup, hgd, hy⟩ := it
  have l1 := n1.lt s.hr
  refine for_it w (fun i σ' H' => ∃ G' ρ' S' h', (∀ q ∈ G, q ∈ G') ∧ (∀ q ∈ supp, q ∈ G') ∧ Lt X.K ρ1 H1 ρ' H' ∧ Stt (c.p X.K) c.ρ0 c.H0 G' ρ' S' h' σ' H' ∧ Sd (c.p X.K) c.ρ0 c.H0 c.W G' ρ' H' D (forL g f (ds.drop i) S' h'))
    ?_ ?_ ?_ ?_
  · exact ⟨G ++ supp, ρ1, S, h1, fun q m => List.mem_append_left _ m, fun q m => List.mem_append_right _ m, .refl, s.hold n1 hsup, Sd.later e1 l1 fun q m => List.mem_append_left _ m⟩
  · rintro i σ' H' hi ⟨G', ρ', S', h', hG, hS, l, s', e'⟩
    exact hgd H' fun q m => (s'.gh q (hS q m)).1
  · rintro i x σ' H' H'' hi ⟨G', ρ', S', h', hG, hS, l, s', e'⟩ y
    obtain ⟨n2, d, hd, dv⟩ := hy i ρ' h' H' x H'' l (fun q m => (s'.gh q (hS q m)).1) s'.hr s'.tb hi y
    have ed : ds.drop i = d :: ds.drop (i + 1) := by
      obtain ⟨hlt, hv⟩ := List.getElem?_eq_some_iff.mp hd
      rw [List.drop_eq_getElem_cons hlt, hv]
    rw [ed] at e'
    simp only [forL] at e'
    have l2 := n2.lt s'.hr
    refine ⟨G', ρ', S', h', d, s'.nx n2, dv, ?_⟩
    cases hgd' : g d S' with
    | none => rw [hgd'] at e'; exact e'
    | some S1 =>
      rw [hgd'] at e'
      simp only at e'
      intro σ1 _ _ s1
      refine ⟨G', ρ', S1, h', s1, ?_⟩
      cases hf : f S1 h' with
      | none => rw [hf] at e'; exact e'
      | some r =>
        rw [hf] at e'
        cases r with
        | nx S2 h2 => exact fun G2 ρ2 σ2 H2 g2 l3 s2 => ⟨G2, ρ2, S2, h2, fun q m => g2 q (hG q m), fun q m => g2 q (hS q m), l.trans (l2.trans l3), s2, Sd.later e' (l2.trans l3) g2⟩
        | ct S2 h2 => exact fun G2 ρ2 σ2 H2 g2 l3 s2 => ⟨G2, ρ2, S2, h2, fun q m => g2 q (hG q m), fun q m => g2 q (hS q m), l.trans (l2.trans l3), s2, Sd.later e' (l2.trans l3) g2⟩
        | brk S2 h2 => exact fun G2 ρ2 σ2 H2 g2 l3 s2 => e' G2 ρ2 σ2 H2 g2 (l2.trans l3) s2
        | ret r h2 => exact e'
        | exc k S2 h2 => exact fun G2 ρ2 σ2 H2 g2 l3 s2 => e' G2 ρ2 σ2 H2 g2 (l2.trans l3) s2
  · rintro σ' H' ⟨G', ρ', S', h', hG, hS, l, s', e'⟩
    rw [List.drop_length] at e'
    exact e' G' ρ' σ' H' (fun _ m => m) .refl s'
end
end Sh
set_option Elab.async false
set_option linter.all false
set_option maxRecDepth 100000
set_option maxHeartbeats 1000000
/-! Sh10: generator expressions whose element may be anything that the rules serve. -/
namespace Sh
open PySem PySem.Spec PyProof.Rows L2

structure GSc (N : List Str) (sc scope : Scope) (own : List (Str × Nat)) : Prop where
  blk : BlkOk N sc scope own
  co : scope.isCoroutine = false
  cell : ∀ y ∈ scope.names, y.2 ≠ .cell
  dot : scope.names.lookup (".0" : Str) = some NameKind.local
def gscB (N : List Str) (sc scope : Scope) (own : List (Str × Nat)) : Bool :=
  blkC N sc scope own && !scope.isCoroutine && (scope.names.all fun y => !decide (y.2 = .cell)) && decide (scope.names.lookup (".0" : Str) = some NameKind.local)
theorem gsc_by {N : List Str} {sc scope : Scope} {own : List (Str × Nat)} (h : gscB N sc scope own = true) : GSc N sc scope own := by
  unfold gscB at h
  simp only [Bool.and_eq_true, Bool.not_eq_true', decide_eq_true_eq, List.all_eq_true, decide_eq_false_iff_not] at h
  obtain ⟨⟨⟨h1, h2⟩, h3⟩, h4⟩ := h
  exact ⟨blkOk_by h1, h2, h3, h4⟩
/-- the context of its element -/
abbrev gCx (X : Cx) (B : Around) (s : Shared) (H : Hp) (cenv : Env) (fp : List Addr) (pn : List (Addr × Obj)) : Cx :=
  { X with A := B.deeper cenv, s_0 := s, H_0 := H, env := cenv, outer := X.stack, stack := cenv :: X.stack, ex := fp, fn := fun _ => false, calm := true, pn := pn, xe := fun _ _ => False }
section
variable {X : Cx} {pins : List (Addr × Obj)} {σ : L2.St} {H : Hp} {s : Shared}
theorem g_start {B : Around} {scope : Scope} {own : List (Str × Nat)} {fp : List Addr} {code : Value} {h' : Heap} {m : Str → Option Value} {fo go : Obj} {gs : GenState} {tk : Nat} (I : Inv X pins σ H s) (S : GSc X.N X.env.scope scope own) (hN : X.N.Nodup)
    (hB : B.handled = none) (hf : B.frames = some X.stack) (hfp : ∀ b ∈ fp, FpOk X pins H b ∧ b < s.heap.objs.size) (hn : h'.Ns s.heap.objs.size m) (hs : Heap.SameBut s.heap.objs.size (s.heap.push fo) h') (hgs : gs.bare = true) (hgo : ∀ v, go.data ≠ .cell v) (hfz : ¬ go.isFreed = true) :
    Inv (gCx X B s H (genEnv scope (cloFrom X.env.cells scope.names []) s.heap.objs.size code builtinsNs X.env) fp [(h'.objs.size, go)]) [] (wipe σ (own.map (·.2))) H { s with gens := s.gens.push gs, toks := tk, heap := h'.push go } := by
  have ok := S.blk
  have hsz : h'.objs.size = s.heap.objs.size + 1 := by rw [hs.1, Heap.size_push]
  have kp : ∀ b o, s.heap.get? b = some o → (h'.push go).get? b = some o := fun b o e => Heap.get?_push_of_some _ (hs.extBut b o (Nat.ne_of_lt (Heap.lt_size e)) (Heap.get?_push_of_some _ e))
  have hfree : ∀ y ∈ scope.names, y.2 = .free → ∃ c, X.env.cells.lookup y.1 = some c := fun y hy e => by
    rcases ok.free y hy e with k | k
    · exact I.ok.has _ (.inl k)
    · exact I.ok.has _ (.inr k)
  have cm : ∀ {y c}, (cloFrom X.env.cells scope.names []).lookup y = some c → X.env.cells.lookup y = some c := fun {y c} e => by
    rcases cloFrom_mem (PySem.mem_of_lookup e) with hm | ⟨h1, h2⟩
    · cases hm
    · obtain ⟨c1, hc⟩ := hfree _ h1 rfl
      have hc : X.env.cells.lookup y = some c1 := hc
      have e2 : c = c1 := by
        rw [h2, hc] <;> rfl
      rw [e2]
      exact hc
  have look : ∀ {y}, scope.names.lookup y = some .free → ∃ c, (cloFrom X.env.cells scope.names []).lookup y = some c := fun {y} hl => by
    have hy : (y, NameKind.free) ∈ scope.names := PySem.mem_of_lookup hl
    exact mem_lookup (cloFrom_has (cells := X.env.cells) (acc := []) hy)
  have cellK : ∀ {c : Addr} {v : Option Value}, s.heap.IsCell c v → (h'.push go).IsCell c v := fun {c v} ⟨o, ho, hd⟩ => ⟨_, kp _ _ ho, hd⟩
  have clt : ∀ {y c}, X.env.cells.lookup y = some c → c < s.heap.objs.size := fun {y c} e => by
    obtain ⟨w, z⟩ := I.cell y c e
    exact z.lt
  refine ⟨⟨I.ok.mod, ok.kind, I.ok.glob, rfl, Nat.le_refl _, fun y z c e1 e2 => I.ok.inj y z c (cm e1) (cm e2), fun y hy => ?_, fun y c z _ => (by cases z), fun _ => hB, Around.frames_deeper hf, .inr ⟨rfl, rfl⟩, fun b hb => ⟨?_, fun y c e z => ?_⟩, I.bs, Nat.le_trans I.ok.bsz I.sz,
      fun b o e hb => ?_, fun b hb z => ?_, I.stack, I.stkFree⟩,
    rfl, I.bare.push hgs, Un.kept kp, ⟨m, hn.push go, fun i y v e1 e2 e3 => ?_⟩, fun y c e => ?_, I.hok.fresh (Nat.le_refl _), fun y c e => I.freeC y c (cm e), fun p hp => ?_, I.hok.kept kp, by rw [wipe_length]; exact I.len⟩
  · have hy : scope.names.lookup y = some .cell ∨ scope.names.lookup y = some .free := hy
    rcases hy with hy | hy
    · exact absurd rfl (S.cell _ (PySem.mem_of_lookup hy))
    · exact look hy
  · exact Nat.ne_of_lt (hfp b hb).2
  · exact (hfp b hb).1.2.2.2.2.1 y c (cm e) z
  · rcases (hfp b hb).1.2.2.2.1 with z | z
    · exact I.ok.noex b o e z
    · exact absurd (Nat.lt_of_lt_of_le (Heap.lt_size e) (Nat.le_trans I.ok.bsz z)) (Nat.lt_irrefl _)
  · rcases List.mem_cons.mp (I.stkSub b z) with z | z
    · exact (hfp b hb).1.2.1 z
    · exact (hfp b hb).1.2.2.1 z
  · obtain ⟨e2, hne⟩ := wipe_some e2
    have e3 : Vis scope y := e3
    have no : ∀ {k : NameKind}, (y, k) ∈ scope.names → k = .local ∨ k = .cell → False := fun {k} hm hk => by
      rcases ok.own _ hm hk with e' | e'
      · obtain ⟨p, hp, hpy⟩ := List.mem_map.mp e'
        have e3 := ok.ix p hp
        have : p.1 = y := hpy
        rw [this] at e3
        exact hne (List.mem_map.mpr ⟨p, hp, nodup_ix hN e3 e1⟩)
      · exact e' (List.mem_of_getElem? e1)
    rcases e3 with k | k | k
    · exact (no (PySem.mem_of_lookup k) (.inl rfl)).elim
    · exact (no (PySem.mem_of_lookup k) (.inr rfl)).elim
    · obtain ⟨m, hn, hl⟩ := I.loc
      have hvis : Vis X.env.scope y := (ok.free _ (PySem.mem_of_lookup k) rfl).elim (fun k => .inr (.inl k)) (fun k => .inr (.inr k))
      obtain ⟨w', r, q⟩ := hl i y v e1 e2 hvis
      obtain ⟨c2, h2⟩ := look k
      refine ⟨w', r, .inr ⟨.inr k, c2, h2, ?_⟩⟩
      have c1 := cm h2
      rcases q with ⟨k', _⟩ | ⟨_, c3, e', z⟩
      · have k' : X.env.scope.names.lookup y = some .local := k'
        rcases ok.free _ (PySem.mem_of_lookup k) rfl with k2 | k2 <;> rw [show X.env.scope.names.lookup y = _ from k2] at k' <;> cases k'
      · rw [c1] at e'
        cases e'
        exact cellK z
  · obtain ⟨w', z⟩ := I.cell y c (cm e)
    exact ⟨w', cellK z⟩
  · have e : p = (h'.objs.size, go) := by simpa using hp
    subst e
    refine ⟨Heap.get?_push_size _ (by simpa using hfz), I.hok.fresh (by omega), ?_, fun hb => ?_, hgo⟩
    · show h'.objs.size ≠ s.heap.objs.size
      omega
    · rcases List.mem_cons.mp (I.stkSub _ hb) with z | z
      · have h1 : (X.env.locals : Nat) < s.heap.objs.size := I.lt
        have h2 : h'.objs.size = X.env.locals := z
        rw [← h2, hsz] at h1
        exact absurd h1 (Nat.not_lt.mpr (Nat.le_succ _))
      · exact I.nofs (by omega) z
end
/-! ### the generator's turns -/
def IGx (G : Cx) (σg : L2.St) (fp : List Addr) (tn : Nat → Heap → Prop) (i : Nat) (H : Hp) (s : Shared) : Prop := Inv G [] σg H s ∧ tn i s.heap ∧ ∀ b ∈ fp, H b = none
def RP (G : Cx) (σg : L2.St) (Dn : Hp → Prop) : Nat → Shared → Shared → Prop := fun _ _ s => ∃ H', Inv G [] σg H' s ∧ Dn H'
abbrev YQT := (Hp → Prop) → V → Hp → Prop
def YP (G : Cx) (σg : L2.St) (fp : List Addr) (tn : Nat → Heap → Prop) (YQ : YQT) : Protocol := fun _ _ v s kap =>
  ∃ i y H' N, RelV y v ∧ IGx G σg fp tn i H' s ∧ YQ N y H' ∧ ∀ s'' H'', IGx G σg fp tn i H'' s'' → N H'' → kap (.send .none) s''
/-- what a turn is to do -/
def GTurn (J : It) (g : TG) (tt : TT) (te : TE) (σg : L2.St) (vs : List Nat) (Dn : Hp → Prop) (YQ : YQT) (W : Nat → Nat → Hp → Prop) : Prop := ∀ i m H, W i m H → (J.stop i H ∧ Dn H) ∨ (J.go i H ∧ ∃ N : Hp → Prop, (∀ H', N H' → ∃ m', m' < m ∧ W (i + 1) m' H') ∧
  ∀ x H', J.yld i H x H' → g x σg H' fun σ2 H2 => wipe σ2 vs = σg ∧ tt σ2 H2 fun b H3 => if b = true then te σ2 H3 fun y H4 => YQ N y H4 else N H3)
section
variable {G : Cx} {σg : L2.St} {vs : List Nat} {fp : List Addr} {tn : Nat → Heap → Prop} {B : Around} {elt tg iter : Expr} {ifs : List Expr} {scope : Scope} {pos : Pos} {it : Addr} {J : It} {g : TG} {tt : TT} {te : TE} {Dn : Hp → Prop} {YQ : YQT} {W : Nat → Nat → Hp → Prop}
theorem over_gen (c : Code) (env : Env) (h : c = .compLoop (.GeneratorExp elt [⟨tg, iter, ifs, 0⟩] scope pos) 0 (.ref it) .none env ∨ c = .compStart (.GeneratorExp elt [⟨tg, iter, ifs, 0⟩] scope pos) 0 (.ref it) .none env) : B.over c [] = B.deeper env := by
  rcases h with rfl | rfl
  · first
      | rfl
      | (obtain ⟨hd, d, fr, gs, u⟩ := B; simp [Around.over, Around.deeper, marksOver, frameCount, unitsOf, envsOf, guardsOf, pushEnvs, pushGuards, Code.envs, Code.env?, Code.isFrame, Code.guards, Code.isGuard, Code.weight, Code.frames, Code.isCreation, Code.isCaller, Code.cUnits])
  · first
      | rfl
      | (obtain ⟨hd, d, fr, gs, u⟩ := B; simp [Around.over, Around.deeper, marksOver, frameCount, unitsOf, envsOf, guardsOf, pushEnvs, pushGuards, Code.envs, Code.env?, Code.isFrame, Code.guards, Code.isGuard, Code.weight, Code.frames, Code.isCreation, Code.isCaller, Code.cUnits])
theorem igx_stat {i : Nat} {H : Hp} {s : Shared} (hex : G.ex = fp) (hpn : ∀ p ∈ G.pn, p.1 ∉ fp) (I : Inv G [] σg H s) (hn : ∀ b ∈ fp, H b = none) : ∀ b ∈ fp, FpOk G [] H b := fun b hb =>
  have hb' : b ∈ G.ex := by rw [hex]; exact hb
  ⟨hn b hb, (I.ok.exf b hb').1, I.ok.exfs b hb', .inl hb', fun x c e => (I.ok.exf b hb').2 x c e, fun p hp z => by
    rcases List.mem_append.mp hp with hp | hp
    · exact hpn p hp (by rw [z]; exact hb)
    · cases hp⟩
theorem g_loop (hA : G.A = B.deeper G.env) (hc : G.calm = true) (hxe : G.xe = fun _ _ => False) (hex : G.ex = fp) (hpn : ∀ p ∈ G.pn, p.1 ∉ fp) (hco : G.env.scope.isCoroutine = false) (T : Turn G.prog G.w G.K tg J fp it tn) (hg : PG G tg g) (ht : PTs G ifs tt) (he : PE G elt te)
    (turn : GTurn J g tt te σg vs Dn YQ W) (hσ : ∀ σ2 : L2.St, wipe σ2 vs = σg → σg.length = σ2.length ∧ ∀ (j : Nat) v, σg[j]? = some (some v) → σ2[j]? = some (some v)) :
    ∀ (m n i : Nat) (s₀ s : Shared) (H : Hp), m < n → W i m H → IGx G σg fp tn i H s →
      Seg (model G.prog G.w) B (fun n s₀ r s₁ => r = .ok .next ∧ RP G σg Dn n s₀ s₁) (YP G σg fp tn YQ) n s₀ (.compLoop (.GeneratorExp elt [⟨tg, iter, ifs, 0⟩] scope pos) 0 (.ref it) .none G.env)
        ((model G.prog G.w).den (.compLoop (.GeneratorExp elt [⟨tg, iter, ifs, 0⟩] scope pos) 0 (.ref it) .none G.env)) [] s := by
  have hov : B.over (.compLoop (.GeneratorExp elt [⟨tg, iter, ifs, 0⟩] scope pos) 0 (.ref it) .none G.env) [] = G.A := by rw [hA]; exact over_gen _ _ (.inl rfl)
  intro m
  induction m using Nat.strongRecOn with
  | ind m ih =>
    intro n i s₀ s H hmn hw hI
    obtain ⟨I, st, fr⟩ := hI
    show Seg _ B _ _ _ s₀ _ ((compTurn (.GeneratorExp elt [⟨tg, iter, ifs, 0⟩] scope pos) 0 (.ref it) .none G.env).onRaise (leaving G.env)) [] s
    rw [compTurn_gen, Sem.onRaise_eq_wrap]
    refine seg_bind_wrap (wpAny_standAt ?_)
    rcases turn i m H hw with ⟨stop, qd⟩ | ⟨go, N, hN, step⟩
    · have td := T.done G rfl rfl rfl hc i [] s σg H (fun _ _ => False) I (igx_stat (i := i) hex hpn I fr) st stop
      refine seg_bind_wrap ?_
      rw [hov]
      refine thnF td fun r s1 ⟨hr, I1⟩ => ?_
      subst hr
      exact seg_end (.ok .next) ⟨rfl, H, I1, qd⟩
    · have ti := T.item G rfl rfl rfl hc i [] s σg H (fun _ _ => False) I (igx_stat (i := i) hex hpn I fr) st go
      refine seg_bind_wrap ?_
      rw [hov]
      refine thnF ti fun r s1 ⟨u, hr, h1⟩ => ?_
      subst hr
      refine seg_bind_wrap ?_
      rw [hov]
      refine thnF h1 fun _ s2 ⟨x, H2, I2, r2, y2, st2, fr2⟩ => ?_
      have I2' := I2.pinned (igx_stat (i := i) hex hpn I2 fr2) (T.obj _ _ st2)
      have back : ∀ {σ8 : L2.St} {s' : Shared} {H' : Hp}, wipe σ8 vs = σg → Inv G ([] ++ pinsAt fp s2.heap) σ8 H' s' → IGx G σg fp tn (i + 1) H' s' := fun {σ8 s' H'} hw8 I' => by
        have pin' : ∀ b ∈ fp, ∀ o, s2.heap.get? b = some o → s'.heap.get? b = some o ∧ H' b = none := fun b hb o e =>
          let z := I'.pin (b, o) (List.mem_append_right _ (List.mem_append_right _ (mem_pinsAt hb e)))
          ⟨z.1, z.2.1⟩
        obtain ⟨w1, w2⟩ := hσ σ8 hw8
        refine ⟨(I'.unpinned (pins := [])).weak w1 w2, T.keep _ _ _ st2 fun b hb o e => (pin' b hb o e).1, fun b hb => ?_⟩
        obtain ⟨o, e, _⟩ := T.obj _ _ st2 b hb
        exact (pin' b hb o e).2
      refine seg_bind_wrap ?_
      rw [hov]
      have ag := hg.run _ s2 σg H2 x u _ I2' r2 (step x H2 y2)
      rw [hxe] at ag
      refine thnF ag fun _ s3 ⟨σ3, H3, I3, hw3, q3⟩ => ?_
      refine seg_bind_wrap ?_
      rw [hov]
      have at_ := ht.run _ s3 σ3 H3 _ I3 q3
      rw [hxe] at at_
      refine thnF at_ fun b s4 ⟨H4, I4, q4⟩ => ?_
      cases b with
      | false =>
        simp only [Bool.false_eq_true, if_false] at q4 ⊢
        obtain ⟨m', hm', w'⟩ := hN H4 q4
        exact seg_again rfl (ih m' hm' n (i + 1) s₀ s4 H4 (by omega) w' (back hw3 I4))
      | true =>
        simp only [if_true] at q4 ⊢
        have hy : ∀ v, yieldOut G.env v = yieldValue v := fun v => by simp only [yieldOut, hco, Bool.false_eq_true, if_false]
        simp only [hy]
        rw [Sem.bind_eq_wrap', Sem.bind_eq_wrap', Sem.wrap_wrap, Sem.wrap_wrap]
        refine seg_wrap ?_
        rw [hov]
        have ae := he.run _ s4 σ3 H4 _ I4 q4
        rw [hxe] at ae
        refine thnF ae fun v s5 ⟨y, H5, I5, r5, q5⟩ => ?_
        obtain ⟨n', rfl⟩ : ∃ n', n = n' + 1 := ⟨n - 1, by omega⟩
        refine seg_at (seg_yield rfl rfl rfl ⟨i + 1, y, H5, N, r5, back hw3 I5, q5, fun s'' H'' hI'' nx => ?_⟩)
        obtain ⟨m', hm', w'⟩ := hN H'' nx
        exact seg_again rfl (ih m' hm' n' (i + 1) s'' s'' H'' (by omega) w' hI'')
theorem g_begin (hA : G.A = B.deeper G.env) (hc : G.calm = true) (hxe : G.xe = fun _ _ => False) (hex : G.ex = fp) (hpn : ∀ p ∈ G.pn, p.1 ∉ fp) (hco : G.env.scope.isCoroutine = false) (T : Turn G.prog G.w G.K tg J fp it tn) (hg : PG G tg g) (ht : PTs G ifs tt) (he : PE G elt te)
    (turn : GTurn J g tt te σg vs Dn YQ W) (hσ : ∀ σ2 : L2.St, wipe σ2 vs = σg → σg.length = σ2.length ∧ ∀ (j : Nat) v, σg[j]? = some (some v) → σ2[j]? = some (some v))
    {m n : Nat} {s₀ s : Shared} {H : Hp} (hmn : m < n) (hw : W 0 m H) (hI : IGx G σg fp tn 0 H s) :
      Seg (model G.prog G.w) B (fun n s₀ r s₁ => r = .ok .next ∧ RP G σg Dn n s₀ s₁) (YP G σg fp tn YQ) n s₀ (.compStart (.GeneratorExp elt [⟨tg, iter, ifs, 0⟩] scope pos) 0 (.ref it) .none G.env)
        ((model G.prog G.w).den (.compStart (.GeneratorExp elt [⟨tg, iter, ifs, 0⟩] scope pos) 0 (.ref it) .none G.env)) [] s := by
  have loop := g_loop (iter := iter) (scope := scope) (pos := pos) hA hc hxe hex hpn hco T hg ht he turn hσ m n 0 s₀ s H hmn hw hI
  show Seg _ B _ _ _ s₀ _ ((compStart (.GeneratorExp elt [⟨tg, iter, ifs, 0⟩] scope pos) 0 (.ref it) .none G.env).onRaise (leaving G.env)) [] s
  unfold compStart
  rw [Sem.onRaise_eq_wrap]
  show Seg _ B _ _ _ s₀ _ ((ask >>= _).wrap _ _ _ _) [] s
  refine seg_bind_wrap (wpAny_askSetting ?_)
  split
  · exact seg_again rfl loop
  · first
      | exact seg_bind_wrap (wpAny_rule (seg_bind_wrap (wpAny_standAt (seg_bind_wrap (T.self _ 0 s _ _ hI.2.1 (seg_again rfl loop))))))
      | (refine seg_bind_wrap (wpAny_rule ?_); show Seg _ B _ _ _ s₀ _ ((standAt iter.pos >>= _).wrap _ _ _ _) [] s; exact seg_bind_wrap (wpAny_standAt (seg_bind_wrap (T.self _ 0 s _ _ hI.2.1 (seg_again rfl loop)))))
end
/-! ### one item asked -/
/-- the generator g at a is alive: n turns may come -/
def Alive (G : Cx) (σg : L2.St) (fp : List Addr) (tn : Nat → Heap → Prop) (Dn : Hp → Prop) (YQ : YQT) (B : Around) (g n : Nat) (N : Hp → Prop) (H : Hp) (s : Shared) : Prop :=
  ∃ (i : Nat) (gs : GenState), s.gens[g]? = some gs ∧ IGx G σg fp tn i H s ∧ N H ∧
    ∀ s'' H'', IGx G σg fp tn i H'' s'' → N H'' → gs.Goes (model G.prog G.w) B.in1 (fun n s₀ r s₁ => r = .ok .next ∧ RP G σg Dn n s₀ s₁) (YP G σg fp tn YQ) n (.send .none) s''
theorem inv_gens {X : Cx} {pins : List (Addr × Obj)} {σ : L2.St} {H : Hp} {s : Shared} {g' : Array GenState} (I : Inv X pins σ H s) (h : AllBare g') : Inv X pins σ H { s with gens := g' } :=
  ⟨I.ok, I.os, h, I.base, I.loc, I.cell, I.free, I.freeC, I.pin, I.hok, I.len⟩
theorem bare_set {s : Shared} {g : Nat} {gs : GenState} (x : AllBare s.gens) (h : gs.bare = true) : AllBare (s.setGen g gs).gens := fun y hy => by
  simp only [Shared.setGen] at hy
  obtain ⟨i, hi, e⟩ := Array.mem_iff_getElem.mp hy
  have e2 : (s.gens.setIfInBounds g gs)[i]? = some y := by rw [Array.getElem?_eq_getElem hi, e]
  rw [Array.getElem?_setIfInBounds] at e2
  split at e2
  · split at e2
    · cases e2; exact h
    · cases e2
  · obtain ⟨h1, h2⟩ := Array.getElem?_eq_some_iff.mp e2
    exact h2 ▸ x _ (Array.getElem_mem h1)
theorem IGx.gens {G : Cx} {σg : L2.St} {fp : List Addr} {tn : Nat → Heap → Prop} {i : Nat} {H : Hp} {s : Shared} {g' : Array GenState} (I : IGx G σg fp tn i H s) (h : AllBare g') : IGx G σg fp tn i H { s with gens := g' } := ⟨inv_gens I.1 h, I.2⟩
section
variable {G : Cx} {σg : L2.St} {fp : List Addr} {tn : Nat → Heap → Prop} {B : Around} {Dn : Hp → Prop} {YQ : YQT} {a : Addr} {g n : Nat} {N : Hp → Prop} {H : Hp} {s : Shared}
/-- next(g) -/
theorem g_next {Q : Option Value → Shared → Prop} {E : Value → Shared → Prop} (hB : B.handled = none) (hd : B.depth < recursionLimit) (hgen : ∀ H s, Inv G [] σg H s → s.heap.IsGen a g) (A : Alive G σg fp tn Dn YQ B g n N H s)
    (hend : ∀ H' s', Inv G [] σg H' s' → Dn H' → Q none s')
    (hitem : ∀ v y N' H' s', RelV y v → YQ N' y H' → Inv G [] σg H' s' → (∀ H'' s'', N' H'' → (∀ i, IGx G σg fp tn i H' s' → IGx G σg fp tn i H'' s'') → s''.gens = s'.gens → ∃ n', n = n' + 1 ∧ Alive G σg fp tn Dn YQ B g n' N' H'' s'') → Q (some v) s') :
    wpAny (model G.prog G.w) B (pyNext (.ref a)) Q E s := by
  obtain ⟨i, gs, hgs, hI, hN, hgo⟩ := A
  have I := hI.1
  refine GenW.wpAny_gsz (n := s.gens.size) (Nat.le_refl _) ?_
  have hlt : g < s.gens.size := by
    rcases Nat.lt_or_ge g s.gens.size with h' | h'
    · exact h'
    · rw [Array.getElem?_eq_none h'] at hgs; cases hgs
  refine wpAny_pyNext_genexpQ (P := fun n s₀ s₁ => RP G σg Dn n s₀ s₁) hB I.nolimit hd (hgen H s I) hgs (hgo _ H (hI.gens (bare_set I.bare rfl)) hN) (fun v s₁ gs' hb hy hsz => ?_) (fun s₁ hp h' hk _ => ?_)
  · obtain ⟨i', y, H', N', ry, hI', hq, hkap⟩ := hy
    refine hitem v y N' H' _ ry hq (inv_gens hI'.1 (bare_set hI'.1.bare hb)) fun H'' s'' hN' hmv hg' => ?_
    have hsz' : g < s₁.gens.size := by
      have : (s₁.setGen g gs').gens.size = s₁.gens.size := by simp [Shared.setGen]
      omega
    have hI'' := hmv i' (hI'.gens (bare_set hI'.1.bare hb))
    cases n with
    | zero => exact (hkap _ _ hI'' hN').elim
    | succ n' =>
      refine ⟨n', rfl, i', gs', ?_, hI'', hN', fun s3 H3 h3 n3 => hkap s3 H3 h3 n3⟩
      rw [hg']
      simp [Shared.setGen, hsz']
  · obtain ⟨H', I', qd⟩ := hp
    refine hend H' _ ?_ qd
    exact (inv_gens I' (bare_set (gs := .finished) I'.bare rfl)).kept (t' := s₁.toks) (h' := h') hk
/-- truth of a value, the state as it was -/
theorem truthy_tok {X : Cx} {pins : List (Addr × Obj)} {σ : L2.St} {H : Hp} {s : Shared} {A : Around} {E : Value → Shared → Prop} {y : V} {v : Value} {k : Bool} {Q : Bool → Shared → Prop} (I : Inv X pins σ H s) (r : RelV y v) (e : TruV X.K y H k) (q : ∀ t, Q k { s with toks := t }) :
    wpAny (model X.prog X.w) A (truthy v) Q E s := by
  have hl := line63
  have hs : sizeLine = 16777216 := sizeLine_eq
  cases y with
  | non => cases r; obtain rfl : k = false := e; exact truthy_none (q s.toks)
  | bl b => cases r; obtain rfl : k = b := e; exact wpAny_truthy_bool (q s.toks)
  | int i => obtain ⟨t, rfl⟩ := r; obtain rfl : k = (i != 0) := e; exact PySem.P.truthy_int (q s.toks)
  | str z =>
    obtain ⟨t, rfl⟩ := r
    obtain ⟨hy, rfl⟩ : z.length ≤ sizeLine ∧ k = ((z.length : Int) != 0) := e
    exact PySem.P.truthy_str (by omega) (q _)
  | ref p =>
    cases r
    have e' : (∃ xs, SqL X.K H p xs ∧ k = !xs.isEmpty) ∨ (∃ xs, SqT X.K H p xs ∧ k = !xs.isEmpty) ∨ ∃ kvs, H p = some (.dK kvs) ∧ k = !kvs.isEmpty := e
    rcases e' with ⟨xs, hx, rfl⟩ | ⟨xs, hx, rfl⟩ | ⟨kvs, hx, rfl⟩
    · obtain ⟨its, r, pl, hz⟩ := I.list hx
      have hlen := r.length
      exact wpAny_truthy_list pl.isList (by simp only [List.size_toArray]; omega) (by rw [isEmpty_of r]; exact q _)
    · obtain ⟨its, r, pl, hz⟩ := I.tuple hx
      have hlen := r.length
      exact truthy_tuple pl (by simp only [List.size_toArray]; omega) (by rw [isEmpty_of r]; exact q _)
    · obtain ⟨hz, hS, vs, r, m⟩ : kvs.length ≤ sizeLine ∧ (p == sysModules) = false ∧ ∃ vs, KV kvs vs ∧ s.heap.DictOf (mixKind X.prog X.w) p vs := I.hok p _ hx
      have hlen : kvs.length = vs.length := Paired.length r
      exact wpAny_truthy_dict hS m (by omega) (by rw [isEmpty_kv r]; exact q _)
  | byt z =>
    obtain ⟨t, rfl⟩ := r
    obtain ⟨hy, rfl⟩ : z.size ≤ sizeLine ∧ k = ((z.size : Int) != 0) := e
    exact PySem.W.truthy_bytes (by omega) (q _)
  | _ => exact (show False from e).elim
/-- any, all: what a turn's value does -/
def yAny (K : PySem.W.Frag) (want : Bool) (Qt : Hp → Prop) : YQT := fun N y H => ∃ k, TruV K y H k ∧ if k = want then Qt H else N H
theorem any_loop {R : Result → Shared → Prop} {Qt : Hp → Prop} (hB : B.handled = none) (hd : B.depth < recursionLimit) (hgen : ∀ H s, Inv G [] σg H s → s.heap.IsGen a g)
    (h0 : ∀ H' s', Inv G [] σg H' s' → Dn H' → R (.ok (.ret (.bool false))) s') (h1 : ∀ H' s', Inv G [] σg H' s' → Qt H' → R (.ok (.ret (.bool true))) s') :
    ∀ (n : Nat) (N : Hp → Prop) (H : Hp) (s : Shared), Alive G σg fp tn Dn (yAny G.K true Qt) B.in1 g n N H s → codeAny (model G.prog G.w) B (.builtin "any.loop" ⟨[.ref a], []⟩) R s := by
  intro n
  induction n with
  | zero =>
    intro N H s A
    refine codeAny_builtin F.entry_any_loop ?_
    rw [Around.under_plainId F.plain_any_loop _]
    show wpAny _ B.in1 (pyNext (.ref a) >>= _) _ _ s
    refine wpAny_bind (g_next hB hd hgen A (fun H' s' I' q => wpAny_bind (wpAny_rule (wpAny_pure (h0 H' s' I' q)))) fun v y N' H' s' ry hq I' hc => ?_)
    obtain ⟨k, tv, hq⟩ := hq
    refine wpAny_bind (wpAny_holding (truthy_tok I' ry tv fun t => wpAny_bind (wpAny_letGo ?_)))
    cases k with
    | true => exact wpAny_bind (wpAny_rule (wpAny_pure (h1 H' _ (I'.tok t) hq)))
    | false =>
      obtain ⟨n', e, _⟩ := hc H' { s' with toks := t } hq (fun i h => ⟨h.1.tok t, h.2⟩) rfl
      cases e
  | succ n ih =>
    intro N H s A
    refine codeAny_builtin F.entry_any_loop ?_
    rw [Around.under_plainId F.plain_any_loop _]
    show wpAny _ B.in1 (pyNext (.ref a) >>= _) _ _ s
    refine wpAny_bind (g_next hB hd hgen A (fun H' s' I' q => wpAny_bind (wpAny_rule (wpAny_pure (h0 H' s' I' q)))) fun v y N' H' s' ry hq I' hc => ?_)
    obtain ⟨k, tv, hq⟩ := hq
    refine wpAny_bind (wpAny_holding (truthy_tok I' ry tv fun t => wpAny_bind (wpAny_letGo ?_)))
    cases k with
    | true => exact wpAny_bind (wpAny_rule (wpAny_pure (h1 H' _ (I'.tok t) hq)))
    | false =>
      obtain ⟨n', e, A'⟩ := hc H' { s' with toks := t } hq (fun i h => ⟨h.1.tok t, h.2⟩) rfl
      cases e
      simp only [Bool.false_eq_true, if_false]
      exact wpAny_pure ⟨plainId_quiet F.plain_any_loop _, ih _ _ _ A'⟩
theorem all_loop {R : Result → Shared → Prop} {Qt : Hp → Prop} (hB : B.handled = none) (hd : B.depth < recursionLimit) (hgen : ∀ H s, Inv G [] σg H s → s.heap.IsGen a g)
    (h0 : ∀ H' s', Inv G [] σg H' s' → Dn H' → R (.ok (.ret (.bool true))) s') (h1 : ∀ H' s', Inv G [] σg H' s' → Qt H' → R (.ok (.ret (.bool false))) s') :
    ∀ (n : Nat) (N : Hp → Prop) (H : Hp) (s : Shared), Alive G σg fp tn Dn (yAny G.K false Qt) B.in1 g n N H s → codeAny (model G.prog G.w) B (.builtin "all.loop" ⟨[.ref a], []⟩) R s := by
  intro n
  induction n with
  | zero =>
    intro N H s A
    refine codeAny_builtin F.entry_all_loop ?_
    rw [Around.under_plainId F.plain_all_loop _]
    show wpAny _ B.in1 (pyNext (.ref a) >>= _) _ _ s
    refine wpAny_bind (g_next hB hd hgen A (fun H' s' I' q => wpAny_bind (wpAny_rule (wpAny_pure (h0 H' s' I' q)))) fun v y N' H' s' ry hq I' hc => ?_)
    obtain ⟨k, tv, hq⟩ := hq
    refine wpAny_bind (wpAny_holding (truthy_tok I' ry tv fun t => wpAny_bind (wpAny_letGo ?_)))
    cases k with
    | false =>
      simp only [Bool.false_eq_true, if_false]
      exact wpAny_bind (wpAny_rule (wpAny_pure (h1 H' _ (I'.tok t) hq)))
    | true =>
      obtain ⟨n', e, _⟩ := hc H' { s' with toks := t } hq (fun i h => ⟨h.1.tok t, h.2⟩) rfl
      cases e
  | succ n ih =>
    intro N H s A
    refine codeAny_builtin F.entry_all_loop ?_
    rw [Around.under_plainId F.plain_all_loop _]
    show wpAny _ B.in1 (pyNext (.ref a) >>= _) _ _ s
    refine wpAny_bind (g_next hB hd hgen A (fun H' s' I' q => wpAny_bind (wpAny_rule (wpAny_pure (h0 H' s' I' q)))) fun v y N' H' s' ry hq I' hc => ?_)
    obtain ⟨k, tv, hq⟩ := hq
    refine wpAny_bind (wpAny_holding (truthy_tok I' ry tv fun t => wpAny_bind (wpAny_letGo ?_)))
    cases k with
    | false =>
      simp only [Bool.false_eq_true, if_false]
      exact wpAny_bind (wpAny_rule (wpAny_pure (h1 H' _ (I'.tok t) hq)))
    | true =>
      obtain ⟨n', e, A'⟩ := hc H' { s' with toks := t } hq (fun i h => ⟨h.1.tok t, h.2⟩) rfl
      cases e
      simp only [if_true]
      exact wpAny_pure ⟨plainId_quiet F.plain_all_loop _, ih _ _ _ A'⟩
end
end Sh
set_option Elab.async false
set_option linter.all false
set_option maxRecDepth 100000
set_option maxHeartbeats 1000000
namespace Sh
open PySem PySem.Spec PyProof.Rows L2
/-- the running def's code object and its table, for generator expressions -/
structure GTab (X : Cx) (T : List (Addr × Str)) (c P : Addr) : Prop where
  tb : LamX.TabB X.base X.mg c P
  code : X.env.code = .ref c
  mem : (P, X.env.qual ++ "<genexpr>") ∈ T
  uniq : ∀ p ∈ T, p.1 = P → p.2 = X.env.qual ++ "<genexpr>"
section
variable {X : Cx} {pins : List (Addr × Obj)} {σ : L2.St} {H : Hp} {s : Shared}
/-- what a step does to the tables: each stands, and tells code objects of its one name -/
structure TabStep (X : Cx) (pins : List (Addr × Obj)) (σ : L2.St) (T : List (Addr × Str)) (P : Addr) (H H1 : Hp) (s s' : Shared) : Prop where
  inv : L2.Inv X pins σ H1 s'
  ext : LamX.ExtN H H1
  tabs : LamX.Tabs T H1
  keep : ∀ b o, b ≠ P → s.heap.get? b = some o → s'.heap.get? b = some o
  gone : ∀ b, b < s.heap.objs.size → H b = none → H1 b = none
  tbl : ∀ b ps, H b = some (.tbl ps) → ∃ qs, H1 b = some (.tbl qs)
  size : s.heap.objs.size ≤ s'.heap.objs.size
theorem TabStep.same {T : List (Addr × Str)} {P : Addr} (I : L2.Inv X pins σ H s) (hT : LamX.Tabs T H) : TabStep X pins σ T P H H s s :=
  ⟨I, LamX.ExtN.refl H, hT, fun _ _ _ e => e, fun _ _ n => n, fun _ ps e => ⟨ps, e⟩, Nat.le_refl _⟩
/-- the table at P gets the code object at c', new -/
theorem TabStep.grow {T : List (Addr × Str)} {P c' : Addr} {q : Str} {ps : Array Value} {pos : Pos} {h' : Heap} {tk : Nat} (I : L2.Inv X pins σ H s) (hT : LamX.Tabs T H) (hm : (P, q) ∈ T) (hu : ∀ p ∈ T, p.1 = P → p.2 = q) (hP : H P = some (.tbl ps))
    (hx : Heap.ExtBut P s.heap h') (hP' : h'.get? P = some { cls := .none, data := .fields (ps ++ #[rawInt pos.line, rawInt pos.col, .ref c']) }) (hge : s.heap.objs.size ≤ c') (hlt : c' < h'.objs.size) (ho : ∃ (oc : Obj) (vs : Array Value) (t : Tok), h'.get? c' = some oc ∧ oc.data = .fields vs ∧ vs[1]? = some (.str q t)) :
    ∃ H1, TabStep X pins σ T P H H1 s { s with heap := h', toks := tk } ∧ H1 c' = some (LamX.CodeO c' q) := by
  have nC : H c' = none := I.hok.fresh hge
  have at2 : ∀ {b : Addr}, b ≠ c' → b ≠ P → upd (upd H P (.tbl (ps ++ #[rawInt pos.line, rawInt pos.col, .ref c']))) c' (LamX.CodeO c' q) b = H b := fun h1 h2 => by rw [upd_ne h1, upd_ne h2]
  have neP : ∀ {b : Addr} {o : HO}, H b = some o → (∀ ps, o ≠ .tbl ps) → b ≠ P := fun {b o} e n z => n ps (Option.some.inj (e.symm.trans (by rw [z]; exact hP)))
  have hE : LamX.ExtN H (upd (upd H P (.tbl (ps ++ #[rawInt pos.line, rawInt pos.col, .ref c']))) c' (LamX.CodeO c' q)) := fun b o e n => by rw [at2 (ne_of_none e nC) (neP e n)]; exact e
  have eL : (ps ++ #[rawInt pos.line, rawInt pos.col, .ref c']).toList = ps.toList ++ [rawInt pos.line, rawInt pos.col, .ref c'] := by simp
  refine ⟨_, ⟨LamX.inv_table (q := q) (t' := tk) (h' := h') I hP (fun b o hb e => hx b o hb e) hP' hge ho, hE, fun p hp => ?_, fun b o hb e => hx b o hb e, fun b hb hn => ?_, fun b qs e => ?_, Nat.le_trans hge (Nat.le_of_lt hlt)⟩, upd_same⟩
  · obtain ⟨ps', a1, a2, a3⟩ := hT p hp
    have old : ∀ p' cv, codeAmong p' ps'.toList = some cv → ∃ c, cv = .ref c ∧ upd (upd H P (.tbl (ps ++ #[rawInt pos.line, rawInt pos.col, .ref c']))) c' (LamX.CodeO c' q) c = some (LamX.CodeO c p.2) := fun p' cv hcv =>
      let ⟨c0, e1, e2⟩ := a3 p' cv hcv
      ⟨c0, e1, hE _ _ e2 LamX.codeO_ne⟩
    by_cases hb : p.1 = P
    · have e2 := hu p hp hb
      rw [hb, hP] at a1; cases a1
      rw [e2] at old
      rw [e2, hb]
      refine ⟨_, by rw [upd_ne (ne_of_none hP nC), upd_same], by rw [eL]; exact PySem.TriplesOk_snoc _ _ _ _ a2, fun p' cv hcv => ?_⟩
      rw [eL] at hcv
      exact (LamX.among_app _ a2 hcv).elim (old p' cv) fun z => ⟨c', z, upd_same⟩
    · exact ⟨ps', by rw [at2 (ne_of_none a1 nC) hb]; exact a1, a2, old⟩
  · rw [at2 (Nat.ne_of_lt (Nat.lt_of_lt_of_le hb hge)) (fun z => by rw [z, hP] at hn; cases hn)]
    exact hn
  · by_cases hb : b = P
    · exact ⟨_, by rw [hb, upd_ne (ne_of_none hP nC), upd_same]⟩
    · exact ⟨qs, by rw [at2 (ne_of_none e nC) hb]; exact e⟩
/-- the code object of a generator expression: new, or found in the table -/
theorem g_code {T : List (Addr × Str)} {c P : Addr} {scope : Scope} {pos : Pos} {E : Value → Shared → Prop} {Q : Value → Shared → Prop} (I : L2.Inv X pins σ H s) (gt : GTab X T c P) (hT : LamX.Tabs T H)
    (h : ∀ (cv : Value) (H1 : Hp) (s' : Shared), TabStep X pins σ T P H H1 s s' → H P ≠ none → Q cv s') :
    wpAny (model X.prog X.w) X.A (genexprCode X.env pos (X.env.qual ++ "<genexpr>") scope) Q E s := by
  obtain ⟨ps, hP, ht, ha⟩ := hT _ gt.mem
  have hP : H P = some (.tbl ps) := hP
  have hP' : s.heap.get? P = some { cls := .none, data := .fields ps } := I.hok P _ hP
  have cd : PySem.W.CodeHd s.heap c P := gt.tb.code.keeps I.bk
  have hPn : H P ≠ none := by rw [hP]; exact fun z => by cases z
  cases hc : codeAmong pos ps.toList with
  | none =>
    refine wpAny_genexprCodeX gt.code (cd.code hP' ht) (cd.tab hP') hc fun c' h' tk hx hge hlt _ hrec htab' _ => ?_
    obtain ⟨c2, oc, vs, t, e2, hoc, hd, hv⟩ := hrec
    cases e2
    obtain ⟨H1, st, _⟩ := TabStep.grow (tk := tk) I hT gt.mem gt.uniq hP hx htab'.2 hge hlt ⟨oc, vs, t, hoc, hd, hv⟩
    exact h (.ref c') H1 _ st hPn
  | some cv => exact wpAny_genexprCode_hit gt.code (cd.code hP' ht) hc (h cv H s (.same I hT) hPn)
/-- a family of contexts: any generator expression of this scope -/
def GFam (X : Cx) (scope : Scope) (p : Cx → Prop) : Prop := ∀ (s : Shared) (H : Hp) (C : Addr) (cl : List (Str × Addr)) (code : Value) (fp : List Addr) (pn : List (Addr × Obj)), p (gCx X X.A.in1.in1 s H (genEnv scope cl C code builtinsNs X.env) fp pn)
/-- made, not begun -/
structure GMade (X : Cx) (pins : List (Addr × Obj)) (σ : L2.St) (Dn : Hp → Prop) (YQ : YQT) (a : Addr) (s : Shared) : Prop where
  ex : ∃ (G : Cx) (σg : L2.St) (fp : List Addr) (tn : Nat → Heap → Prop) (g n : Nat) (N : Hp → Prop) (H : Hp), G.K = X.K ∧ G.prog = X.prog ∧ G.w = X.w ∧ (∀ H s, Inv G [] σg H s → s.heap.IsGen a g) ∧ (∀ H s, Inv G [] σg H s → Inv X pins σ H s) ∧ Alive G σg fp tn Dn YQ X.A.in1 g n N H s
theorem gen_make {k : Nat} {T : List (Addr × Str)} {c P : Addr} {elt tg iter : Expr} {ifs : List Expr} {scope : Scope} {own : List (Str × Nat)} {gpos : Pos} {wi : TI} {g : TG} {tt : TT} {te : TE} {Dn : Hp → Prop} {YQ : YQT} {Q' : Value → Shared → Prop}
    (hr : Room k X.A) (hc : X.calm = true) (hN : X.N.Nodup) (S : GSc X.N X.env.scope scope own) (gt : GTab X T c P) (hi : PI X tg iter wi) (hg : GFam X scope fun G => PG G tg g) (ht : GFam X scope fun G => PTs G ifs tt) (he : GFam X scope fun G => PE G elt te)
    (hs : ∀ v, genFold iter X.env v = pure v) (I : Inv X pins σ H s)
    (h : wi σ H fun J H1 => LamX.Tabs T H1 ∧ ∀ H2, LamX.ExtN H1 H2 → LamX.Tabs T H2 → (∀ b ps, H1 b = some (.tbl ps) → ∃ qs, H2 b = some (.tbl qs)) → ∃ W : Nat → Nat → Hp → Prop, (∃ m, W 0 m H2) ∧ GTurn J g tt te (wipe σ (own.map (·.2))) (own.map (·.2)) Dn YQ W)
    (hQ : ∀ a s', GMade X pins σ Dn YQ a s' → Q' (.ref a) s') :
    wpAny (model X.prog X.w) X.A (eval (.GeneratorExp elt [⟨tg, iter, ifs, 0⟩] scope gpos) X.env) Q' X.xe s := by
  have hfree : ∀ y ∈ scope.names, y.2 = .free → ∃ c, X.env.cells.lookup y.1 = some c := fun y hy e => by
    rcases S.blk.free y hy e with k | k
    · exact I.ok.has _ (.inl k)
    · exact I.ok.has _ (.inr k)
  refine wpAny_GeneratorExp_make S.co (closure_ok hfree) S.cell S.dot S.blk.kind hr.depth (thn (hi.run pins s σ H _ I h) fun xv s1 h1 => thn h1 fun itv s2 h2 => ?_) hs
  obtain ⟨it, fp, tn, J, H2, e, I2, T2, st2, f2, hT, q⟩ := h2
  subst e
  refine ⟨I2.nolimit, ?_⟩
  refine g_code I2 gt hT fun code H3 s3 st hP => ?_
  obtain ⟨I3, hE, hT3, hk, hnn, htk, hsz⟩ := st
  obtain ⟨bm, ob, e1, e2, e3, e4, e5, e6, e7, e8⟩ := gt.tb.bm
  refine wpAny_builtinsFor (m := X.mg) (by rw [I3.ok.glob]; exact I3.mod.glob.keeps I3.bk) e1 e2 (I3.bk _ _ e5) e6 e7 e8 ?_
  intro h' hn' hs'
  have ltf : ∀ b ∈ fp, b < s2.heap.objs.size := fun b hb => by
    obtain ⟨o, e, _⟩ := T2.obj _ _ st2 b hb
    exact Heap.lt_size e
  have neP : ∀ b ∈ fp, b ≠ P := fun b hb z => hP (by rw [← z]; exact (f2 b hb).1)
  have f3 : ∀ b ∈ fp, FpOk X pins H3 b ∧ b < s3.heap.objs.size := fun b hb => ⟨⟨hnn b (ltf b hb) (f2 b hb).1, (f2 b hb).2⟩, Nat.lt_of_lt_of_le (ltf b hb) hsz⟩
  have kp : ∀ b o, s3.heap.get? b = some o → ∀ go : Obj, (h'.push go).get? b = some o := fun b o e go => Heap.get?_push_of_some _ (hs'.extBut b o (Nat.ne_of_lt (Heap.lt_size e)) (Heap.get?_push_of_some _ e))
  have IG := g_start (gs := .fresh (.compStart (.GeneratorExp elt [⟨tg, iter, ifs, 0⟩] scope gpos) 0 (.ref it) .none (genEnv scope (cloFrom X.env.cells scope.names []) s3.heap.objs.size code builtinsNs X.env))) (tk := s3.toks + 1 + 1 + 1) (B := X.A.in1.in1)
    (go := { cls := .type "generator", data := .fields #[.int s3.gens.size 0, .str "<genexpr>" (s3.toks + 1), .str (X.env.qual ++ "<genexpr>") (s3.toks + 1 + 1)] }) (code := code) I3 S hN hr.hd I3.ok.frames f3 hn' hs' rfl (fun v z => by cases z) (by intro z; cases z)
  have hpn : ∀ p ∈ [(h'.objs.size, ({ cls := .type "generator", data := .fields #[.int s3.gens.size 0, .str "<genexpr>" (s3.toks + 1), .str (X.env.qual ++ "<genexpr>") (s3.toks + 1 + 1)] } : Obj))], p.1 ∉ fp := fun p hp hb => by
    rw [List.mem_singleton.mp hp] at hb
    have h1 := (f3 _ hb).2
    rw [show h'.objs.size = s3.heap.objs.size + 1 by rw [hs'.1, Heap.size_push]] at h1
    exact absurd h1 (Nat.not_lt.mpr (Nat.le_succ _))
  obtain ⟨W, ⟨m, hw⟩, turn⟩ := q H3 hE hT3 htk
  refine hQ _ _ ⟨⟨gCx X X.A.in1.in1 s3 H3 (genEnv scope (cloFrom X.env.cells scope.names []) s3.heap.objs.size code builtinsNs X.env) fp [(h'.objs.size, { cls := .type "generator", data := .fields #[.int s3.gens.size 0, .str "<genexpr>" (s3.toks + 1), .str (X.env.qual ++ "<genexpr>") (s3.toks + 1 + 1)] })], wipe σ (own.map (·.2)), fp, tn, s3.gens.size, m + 1, fun H => ∃ m', m' < m + 1 ∧ W 0 m' H, H3, rfl, rfl, rfl, fun H s I => ?_, fun H s I => ?_, 0, _, Array.getElem?_push_size .., ⟨IG, ?_, fun b hb => (f3 b hb).1.1⟩, ⟨m, Nat.lt_succ_self m, hw⟩, fun s'' H'' hI hN => ?_⟩⟩
  · exact ⟨_, _, _, (I.pin _ (List.mem_append_left _ (List.mem_singleton.mpr rfl))).1, rfl, rfl, rfl⟩
  · exact I3.call' (ch := fp) I.os I.base I.hok I.bare fun b hb => ⟨(f3 b hb).1.2.2.2.1, (f3 b hb).1.2.1, (f3 b hb).1.2.2.2.2.1, (f3 b hb).1.2.2.2.2.2⟩
  · exact T2.keep _ _ _ st2 fun b hb o e => kp b o (hk b o (neP b hb) e) _
  · obtain ⟨m', hm', hw'⟩ := hN
    refine ⟨rfl, ?_⟩
    exact g_begin (G := gCx X X.A.in1.in1 s3 H3 (genEnv scope (cloFrom X.env.cells scope.names []) s3.heap.objs.size code builtinsNs X.env) fp _) (g := g) (tt := tt) (te := te) rfl rfl rfl rfl hpn S.co T2 (hg _ _ _ _ _ _ _) (ht _ _ _ _ _ _ _) (he _ _ _ _ _ _ _) turn
      (fun σ2 h2 => by
        refine ⟨by rw [← h2, wipe_length], fun j v e => ?_⟩
        rw [← h2] at e
        exact (wipe_some e).1) hm' hw' hI
/-- what is asked of a generator expression's walk -/
def tGn (T : List (Addr × Str)) (wi : TI) (g : TG) (tt : TT) (te : TE) (vs : List Nat) (Dn : Hp → Prop) (YQ : YQT) : L2.St → Hp → Prop := fun σ H => wi σ H fun J H1 => LamX.Tabs T H1 ∧ ∀ H2, LamX.ExtN H1 H2 → LamX.Tabs T H2 → (∀ b ps, H1 b = some (.tbl ps) → ∃ qs, H2 b = some (.tbl qs)) →
  ∃ W : Nat → Nat → Hp → Prop, (∃ m, W 0 m H2) ∧ GTurn J g tt te (wipe σ vs) vs Dn YQ W
section
variable {k : Nat} {T : List (Addr × Str)} {c P : Addr} {elt tg iter : Expr} {ifs : List Expr} {scope : Scope} {own : List (Str × Nat)} {gpos p pos : Pos} {wi : TI} {g : TG} {tt : TT} {te : TE}
/-- a built-in of one argument, a generator expression -/
theorem pe_gen1 {x : Str} {id : String} {Dn : VK → Hp → Prop} {YQ : VK → YQT} (hr : Room k X.A) (hc : X.calm = true) (hN : X.N.Nodup) (S : GSc X.N X.env.scope scope own) (gt : GTab X T c P) (hi : PI X tg iter wi) (hg : GFam X scope fun G => PG G tg g) (ht : GFam X scope fun G => PTs G ifs tt) (he : GFam X scope fun G => PE G elt te)
    (hs : ∀ v, genFold iter X.env v = pure v) (hgl : Gl X x) (hm : X.mg x = none) (hb : bootBuiltins x = some (.builtin id)) (hn : x ≠ "__name__")
    (hcall : ∀ pins σ Q a s', GMade X pins σ (Dn Q) (YQ Q) a s' → wpAny (model X.prog X.w) X.A (call (.builtin id) [.ref a]) (EP X pins σ Q) X.xe s')
    (hst : starEach [.GeneratorExp elt [⟨tg, iter, ifs, 0⟩] scope gpos] X.env = (false, eval (.GeneratorExp elt [⟨tg, iter, ifs, 0⟩] scope gpos) X.env) :: starEach [] X.env := by rfl) (hdb : (x == ("__debug__" : Str)) = false := by decide) :
    PE X (.Call (.Name x p) [.GeneratorExp elt [⟨tg, iter, ifs, 0⟩] scope gpos] [] pos) (fun σ H Q => tGn T wi g tt te (own.map (·.2)) (Dn Q) (YQ Q) σ H) := by
  refine ⟨fun pins s σ H Q I h => ?_⟩
  refine wpAny_Call_Name_kw (ld_blt I hgl hm hb ?_ hn hdb)
  refine PyProof.Rows.callWith_builtin1 ?_ hst (by rfl)
  rw [hst]
  show wpAny _ _ (spliced ((false, eval (.GeneratorExp elt [⟨tg, iter, ifs, 0⟩] scope gpos) X.env) :: backTo pos (starEach [] X.env))) _ _ s
  exact Calls.spliced_cons (gen_make hr hc hN S gt hi hg ht he hs I h fun a s' hM => Calls.spliced_nil (hcall pins σ Q a s' hM))
theorem call_anyG {pins : List (Addr × Obj)} {σ : L2.St} {Q : VK} {a : Addr} {s' : Shared} (hr : Room k X.A) (hM : GMade X pins σ (fun H => Q (.bl false) H) (yAny X.K true fun H => Q (.bl true) H) a s') : wpAny (model X.prog X.w) X.A (call (.builtin "any") [.ref a]) (EP X pins σ Q) X.xe s' := by
  obtain ⟨G, σg, fp, tn, g, n, N, H, eK, eP, eW, hgen, hback, A⟩ := hM
  have hI : ∃ H s, Inv G [] σg H s ∧ s' = s := let ⟨_, _, _, hI, _⟩ := A; ⟨_, _, hI.1, rfl⟩
  refine call_function_tree F.kind_any F.plain_any F.entry_any (F.args_any1 _) ?_
  unfold Builtin.«any»
  refine wpAny_bind (m := oneArg "any" _) (wpAny_pure ?_)
  refine wpAny_bind (wpAny_pyIter_gen (let ⟨_, _, _, hI, _⟩ := A; hgen _ _ hI.1) ?_)
  refine wpAny_pure ⟨plainId_quiet F.plain_any_loop _, ?_⟩
  rw [← eK, ] at A
  rw [← eP, ← eW]
  exact any_loop (Qt := fun H => Q (.bl true) H) hr.hd hr.depth hgen (fun H' s' I' q => ⟨.bl false, H', hback H' s' I', rfl, q⟩) (fun H' s' I' q => ⟨.bl true, H', hback H' s' I', rfl, q⟩) n N H s' A
theorem call_allG {pins : List (Addr × Obj)} {σ : L2.St} {Q : VK} {a : Addr} {s' : Shared} (hr : Room k X.A) (hM : GMade X pins σ (fun H => Q (.bl true) H) (yAny X.K false fun H => Q (.bl false) H) a s') : wpAny (model X.prog X.w) X.A (call (.builtin "all") [.ref a]) (EP X pins σ Q) X.xe s' := by
  obtain ⟨G, σg, fp, tn, g, n, N, H, eK, eP, eW, hgen, hback, A⟩ := hM
  refine call_function_tree F.kind_all F.plain_all F.entry_all (F.args_all1 _) ?_
  unfold Builtin.«all»
  refine wpAny_bind (m := oneArg "all" _) (wpAny_pure ?_)
  refine wpAny_bind (wpAny_pyIter_gen (let ⟨_, _, _, hI, _⟩ := A; hgen _ _ hI.1) ?_)
  refine wpAny_pure ⟨plainId_quiet F.plain_all_loop _, ?_⟩
  rw [← eK, ] at A
  rw [← eP, ← eW]
  exact all_loop (Qt := fun H => Q (.bl false) H) hr.hd hr.depth hgen (fun H' s' I' q => ⟨.bl true, H', hback H' s' I', rfl, q⟩) (fun H' s' I' q => ⟨.bl false, H', hback H' s' I', rfl, q⟩) n N H s' A
end
end
end Sh
set_option Elab.async false
set_option linter.all false
set_option maxRecDepth 100000
set_option maxHeartbeats 1000000
namespace Sh
open PySem PySem.Spec PyProof.Rows L2
def wipeS (S : Env') : List Nat → Env'
  | [] => S
  | v :: vs => (wipeS S vs).set v .none
theorem wipeS_length (S : Env') : ∀ vs : List Nat, (wipeS S vs).length = S.length
  | [] => rfl
  | v :: vs => by unfold wipeS; rw [List.length_set, wipeS_length S vs]
theorem wipe_get (σ : L2.St) (j : Nat) : ∀ vs : List Nat, (wipe σ vs)[j]? = if j ∈ vs ∧ j < σ.length then some none else σ[j]?
  | [] => by simp [wipe]
  | v :: vs => by
    unfold wipe
    rw [List.getElem?_set, wipe_length, wipe_get σ j vs]
    by_cases h : v = j
    · subst h
      by_cases h2 : v < σ.length
      · simp [h2]
      · rw [List.getElem?_eq_none (by omega)]
        simp [h2]
    · have : ¬ j = v := fun e => h e.symm
      simp [h, this]
theorem wipe_same {σ σ' : L2.St} {vs : List Nat} (hl : σ'.length = (wipe σ vs).length) (h : ∀ k, k ∉ vs → σ'[k]? = (wipe σ vs)[k]?) : wipe σ' vs = wipe σ vs := by
  rw [wipe_length] at hl
  refine List.ext_getElem? fun j => ?_
  rw [wipe_get, wipe_get, hl]
  by_cases hj : j ∈ vs ∧ j < σ.length
  · rw [if_pos hj, if_pos hj]
  · rw [if_neg hj, if_neg hj]
    by_cases h2 : j ∈ vs
    · have h3 : ¬ j < σ.length := fun z => hj ⟨h2, z⟩
      rw [List.getElem?_eq_none (by omega), List.getElem?_eq_none (by omega)]
    · rw [h j h2, wipe_get, if_neg fun z => h2 z.1]
section
variable {p : Pm} {ρ0 ρ ρ1 ρ2 : List Addr} {G : List (Addr × HO)} {S : Env'} {σ : L2.St} {h h1 h2 : Hs} {H0 H H1 H2 : Hp}
theorem Stt.unset (s : Stt p ρ0 H0 G ρ S h σ H) (v : Nat) : Stt p ρ0 H0 G ρ (S.set v .none) h (σ.set v none) H := by
  have own : ∀ (i : Nat) t, (S.set v .none)[i]? = some t → isOwn t = true → i ≠ v ∧ S[i]? = some t := fun i t e ot => by
    by_cases hi : v = i
    · subst hi
      have hl : v < S.length := by
        have := (List.getElem?_eq_some_iff.mp e).1
        rwa [List.length_set] at this
      rw [List.getElem?_set_self hl] at e
      cases e; cases ot
    · rw [List.getElem?_set_ne hi] at e
      exact ⟨fun z => hi z.symm, e⟩
  refine { s with len := by rw [List.length_set, List.length_set]; exact s.len, sl := fun i t e => ?_, ap := fun i j t u a hij hi hj ot ou ea => ?_ }
  · by_cases hi : v = i
    · subst hi
      have hl : v < S.length := by
        have := (List.getElem?_eq_some_iff.mp e).1
        rwa [List.length_set] at this
      rw [List.getElem?_set_self hl] at e
      cases e
      exact ⟨none, List.getElem?_set_self (by rw [← s.len]; exact hl), trivial⟩
    · rw [List.getElem?_set_ne hi] at e
      rw [List.getElem?_set_ne hi]
      exact s.sl i t e
  · obtain ⟨n1, e1⟩ := own i t hi ot
    obtain ⟨n2, e2⟩ := own j u hj ou
    rw [List.getElem?_set_ne (Ne.symm n1)] at ea
    rw [List.getElem?_set_ne (Ne.symm n2)]
    exact s.ap i j t u a hij e1 e2 ot ou ea
theorem Stt.wipe (s : Stt p ρ0 H0 G ρ S h σ H) : ∀ vs : List Nat, Stt p ρ0 H0 G ρ (wipeS S vs) h (L2.wipe σ vs) H
  | [] => s
  | v :: vs => (s.wipe vs).unset v
theorem Nx.extN (hr : HR p ρ h H) (e : LamX.ExtN H H1) (tb : LamX.Tabs p.T H1) (tk : ∀ b ps, H b = some (.tbl ps) → ∃ qs, H1 b = some (.tbl qs)) : Nx p ρ H ρ h H1 where
  pre := List.prefix_refl _
  hr := by
    have sq : ∀ a vs, SqT p.K H a vs → SqT p.K H1 a vs := fun a vs q => by
      rcases q with (q | ⟨o, q⟩) | q
      · exact .inl (.inl (e _ _ q fun ps z => by cases z))
      · exact .inl (.inr ⟨o, e _ _ q fun ps z => by cases z⟩)
      · exact .inr q
    have dvs : ∀ {vs : List V} {ds : List D}, DVs p.K ρ H vs ds → DVs p.K ρ H1 vs ds := fun q => q.mono sq fun _ _ z => z
    refine ⟨hr.len, hr.nd, fun j a o h1 h2 => ?_⟩
    have m := hr.ob j a o h1 h2
    cases o with
    | lst ds => obtain ⟨vs, x, r⟩ := m; exact ⟨vs, e _ _ x (fun ps z => by cases z), dvs r⟩
    | dct kd => obtain ⟨vs, x, r1, r2⟩ := m; exact ⟨vs, e _ _ x (fun ps z => by cases z), r1, dvs r2⟩
    | ins c fs => obtain ⟨dx, gs, x, r1, r2⟩ := m; exact ⟨dx, gs, e _ _ x (fun ps z => by cases z), r1, dvs r2⟩
  fr := fun a o x nt _ => e a o x nt
  nw := fun _ m => .inl m
  tk := tk
  tb := tb
end
/-- the same, no exception wished -/
abbrev Cc.calm (c : Cc) : Cc := { c with W := fun _ _ _ _ => False }
abbrev CTs (X : Cx) (c : Cc) (ifs : List Expr) (t : TX) : Prop := PTs X ifs (tT X.K c t)
def xYes : TX := fun _ h => some (.ok true h)
section
variable {X : Cx} {c : Cc} {e elt tg iter : Expr} {pos gpos p : Pos} {ifs : List Expr}
theorem pts_weak {t t' : TT} (he : PTs X ifs t) (h : ∀ σ H Q, t' σ H Q → t σ H Q) : PTs X ifs t' := ⟨fun pins s σ H Q I q => he.run pins s σ H Q I (h σ H Q q)⟩
theorem cts_nil : CTs X c [] xYes := by
  refine pts_weak pts_nil fun σ H Q q => ?_
  obtain ⟨G, ρ, S, h, s, e⟩ := q
  exact e ρ H true (.refl s.hr s.tb) rfl
theorem cts_one {t : TX} (h : CT X c e t) : CTs X c [e] t := pts_one h

/-- any (want), all (not want) -/
def anyL (want : Bool) (g : TGx) (t : TX) (f : EX) (Sw : Env') : List D → Hs → Option (Bool × Hs)
  | [], h => some (!want, h)
  | d :: ds, h => match g d Sw with
    | none => none
    | some S1 => match t S1 h with
      | some (.ok false h1) => anyL want g t f Sw ds h1
      | some (.ok true h1) => match f S1 h1 with
        | some (.ok r h2) => match truR r h2 with
          | some b => if b = want then some (want, h2) else anyL want g t f Sw ds h2
          | none => none
        | _ => none
      | _ => none
def xAny (want : Bool) (i : IX) (vs : List Nat) (g : TGx) (t : TX) (f : EX) : EX := fun S h => andThen (i S h) fun ds h1 => match anyL want g t f (wipeS S vs) ds h1 with
  | some (b, h2) => some (.ok (.d (.bl b)) h2)
  | none => none
theorem tGn_any {want : Bool} {vs ts : List Nat} {i : IX} {g : TGx} {t : TX} {f : EX} {σ : L2.St} {H : Hp} {Q : VK} {fz : FZ} (hts : ∀ k, k ∈ ts → k ∈ vs) (q : tE X.K c (xAny want i vs g t f) σ H Q) :
    tGn c.T (tI X.K c fz i) (tG X.K c.calm ts g) (tT X.K c.calm t) (tE X.K c.calm f) vs (fun H => Q (.bl (!want)) H) (yAny X.K want fun H => Q (.bl want) H) σ H := by
  obtain ⟨G, ρ, S, h, s, e⟩ := q
  refine ⟨G, ρ, S, h, s, e.bind (rel := fun ρ' Hb H' J ds => ItR (c.p X.K) (fz G Hb) ρ' H' J ds) fun ds h1 ρ1 H1 J n1 it e1 => ⟨n1.tb, fun H2 hE hT2 htk => ?_⟩⟩
  have n2 : Nx (c.p X.K) ρ1 H1 ρ1 h1 H2 := .extN n1.hr hE hT2 htk
  obtain ⟨Gd, Y, supp, w, hsup, hgd, hy⟩ := it
  let Fin : Nat → Nat → Hp → Prop := fun i m H' => m = ds.length - i ∧ i ≤ ds.length ∧ ∃ ρ' h', Nx (c.p X.K) ρ H ρ' h' H' ∧ Lt X.K ρ1 H1 ρ' H' ∧ (∀ q ∈ supp, H' q.1 = some q.2 ∧ NoTbl q.2 ∧ q.1 ∉ ρ') ∧ match anyL want g t f (wipeS S vs) (ds.drop i) h' with
    | none => False
    | some (b, h'') => ∀ ρ'' H'', Nx (c.p X.K) ρ H ρ'' h'' H'' → Q (.bl b) H''
  refine ⟨Fin, ⟨ds.length, by simp, Nat.zero_le _, ρ1, h1, n1.trans n2, n2.lt n1.hr, fun q m => ?_, ?_⟩, ?_⟩
  · obtain ⟨a1, a2, a3, _⟩ := hsup q m
    exact ⟨hE _ _ a1 a2, a2, a3⟩
  · rw [List.drop_zero]
    cases hA : anyL want g t f (wipeS S vs) ds h1 with
    | none => rw [hA] at e1; exact e1
    | some bh => rw [hA] at e1; exact fun ρ'' H'' n => e1 ρ'' H'' _ n (.bl _)
  rintro i m H' ⟨rfl, hi, ρ', h', n, l, hs, fin⟩
  have gd := hgd H' fun q m => (hs q m).1
  by_cases hlt : i < ds.length
  · refine .inr ⟨w.goes i H' hlt gd, fun H'' => Fin (i + 1) (ds.length - (i + 1)) H'', fun H'' z => ⟨_, by omega, z⟩, fun x H'' y => ?_⟩
    obtain ⟨n3, d, hd, dv⟩ := hy i ρ' h' H' x H'' l (fun q m => (hs q m).1) n.hr n.tb hlt (w.yields i H' x H'' hlt gd y)
    have ed : ds.drop i = d :: ds.drop (i + 1) := by
      obtain ⟨hlt, hv⟩ := List.getElem?_eq_some_iff.mp hd
      rw [List.drop_eq_getElem_cons hlt, hv]
    rw [ed] at fin
    simp only [anyL] at fin
    have n4 := n.trans n3
    have s4 := s.nx n4
    have sup : ∀ {ρa h_a Ha}, Nx (c.p X.K) ρ' H' ρa h_a Ha → ∀ q ∈ supp, Ha q.1 = some q.2 ∧ NoTbl q.2 ∧ q.1 ∉ ρa := fun {ρa h_a Ha} na q m => by
      obtain ⟨a1, a2, a3⟩ := hs q m
      exact ⟨na.fr _ _ a1 a2 a3, a2, na.fresh a1 a3⟩
    refine ⟨G, ρ', wipeS S vs, h', d, s4.wipe vs, dv, ?_⟩
    cases hg : g d (wipeS S vs) with
    | none => rw [hg] at fin; exact fin
    | some S1 =>
      rw [hg] at fin
      simp only at fin
      intro σ2 hl ho s5
      refine ⟨wipe_same hl fun k hk => ho k fun z => hk (hts k z), G, ρ', S1, h', s5, ?_⟩
      cases ht : t S1 h' with
      | none => rw [ht] at fin; exact fin
      | some r =>
        rw [ht] at fin
        cases r with
        | exc cc h3 => exact fin.elim
        | ok b h3 =>
          intro ρ3 H3 b' n5 eb
          cases eb
          have n35 := n3.trans n5
          cases b with
          | false => exact iteF ⟨rfl, hlt, ρ3, h3, n.trans n35, l.trans (n35.lt n.hr), sup n35, fin⟩
          | true =>
            refine iteT ⟨G, ρ3, S1, h3, s5.nx n5, ?_⟩
            simp only at fin
            cases hf : f S1 h3 with
            | none => rw [hf] at fin; exact fin
            | some r =>
              rw [hf] at fin
              cases r with
              | exc cc h4 => exact fin.elim
              | ok r h4 =>
                intro ρ4 H4 v n6 rv
                simp only at fin
                have n36 := n35.trans n6
                cases htr : truR r h4 with
                | none => rw [htr] at fin; exact fin.elim
                | some k =>
                  rw [htr] at fin
                  simp only at fin
                  refine ⟨k, tru_of n6.hr rv htr, ?_⟩
                  by_cases hk : k = want
                  · rw [if_pos hk] at fin ⊢
                    exact fin ρ4 H4 (n.trans n36)
                  · rw [if_neg hk] at fin ⊢
                    exact ⟨rfl, hlt, ρ4, h4, n.trans n36, l.trans (n36.lt n.hr), sup n36, fin⟩
  · have e : i = ds.length := by omega
    subst e
    rw [List.drop_length] at fin
    exact .inl ⟨w.stops H' gd, fin ρ' H' n⟩
theorem ce_any {k : Nat} {cc P : Addr} {scope : Scope} {own : List (Str × Nat)} {ts : List Nat} {i : IX} {g : TGx} {t : TX} {f : EX} {fz : FZ} (hr : Room k X.A) (hc : X.calm = true) (hN : X.N.Nodup) (S : GSc X.N X.env.scope scope own) (gt : GTab X c.T cc P)
    (hi : CI X c fz tg iter i) (hg : GFam X scope fun G => CG G c.calm tg ts g) (ht : GFam X scope fun G => CTs G c.calm ifs t) (he : GFam X scope fun G => CE G c.calm elt f)
    (hts : ∀ k, k ∈ ts → k ∈ own.map (·.2)) (hs : ∀ v, genFold iter X.env v = pure v) (hgl : Gl X "any") (hm : X.mg "any" = none)
    (hst : starEach [.GeneratorExp elt [⟨tg, iter, ifs, 0⟩] scope gpos] X.env = (false, eval (.GeneratorExp elt [⟨tg, iter, ifs, 0⟩] scope gpos) X.env) :: starEach [] X.env := by rfl) :
    CE X c (.Call (.Name "any" p) [.GeneratorExp elt [⟨tg, iter, ifs, 0⟩] scope gpos] [] pos) (xAny true i (own.map (·.2)) g t f) :=
  pe_weak (pe_gen1 (YQ := fun Q => yAny X.K true fun H => Q (.bl true) H) (Dn := fun Q H => Q (.bl false) H) hr hc hN S gt hi hg ht he hs hgl hm boot_any (by decide) (fun pins σ Q a s' hM => call_anyG hr hM) hst) fun σ H Q q => tGn_any hts q
theorem boot_all : bootBuiltins "all" = some (.builtin "all") := by kernel_rfl
theorem ce_all {k : Nat} {cc P : Addr} {scope : Scope} {own : List (Str × Nat)} {ts : List Nat} {i : IX} {g : TGx} {t : TX} {f : EX} {fz : FZ} (hr : Room k X.A) (hc : X.calm = true) (hN : X.N.Nodup) (S : GSc X.N X.env.scope scope own) (gt : GTab X c.T cc P)
    (hi : CI X c fz tg iter i) (hg : GFam X scope fun G => CG G c.calm tg ts g) (ht : GFam X scope fun G => CTs G c.calm ifs t) (he : GFam X scope fun G => CE G c.calm elt f)
    (hts : ∀ k, k ∈ ts → k ∈ own.map (·.2)) (hs : ∀ v, genFold iter X.env v = pure v) (hgl : Gl X "all") (hm : X.mg "all" = none)
    (hst : starEach [.GeneratorExp elt [⟨tg, iter, ifs, 0⟩] scope gpos] X.env = (false, eval (.GeneratorExp elt [⟨tg, iter, ifs, 0⟩] scope gpos) X.env) :: starEach [] X.env := by rfl) :
    CE X c (.Call (.Name "all" p) [.GeneratorExp elt [⟨tg, iter, ifs, 0⟩] scope gpos] [] pos) (xAny false i (own.map (·.2)) g t f) :=
  pe_weak (pe_gen1 (YQ := fun Q => yAny X.K false fun H => Q (.bl false) H) (Dn := fun Q H => Q (.bl true) H) hr hc hN S gt hi hg ht he hs hgl hm boot_all (by decide) (fun pins σ Q a s' hM => call_allG hr hM) hst) fun σ H Q q => tGn_any hts q
end
end Sh
set_option Elab.async false
set_option linter.all false
set_option maxRecDepth 100000
set_option maxHeartbeats 1000000
namespace Sh
open PySem PySem.Spec PyProof.Rows L2
theorem Nx.wr {p : Pm} {ρ ρ1 : List Addr} {h1 : Hs} {H H1 : Hp} {D : Addr} {w o : HO} (n : Nx p ρ H ρ1 h1 H1) (z : H D = none) (hw : H1 D = some w) (mw : MutO w) (na : D ∉ ρ1) : Nx p ρ H ρ1 h1 (upd H1 D o) where
  pre := n.pre
  hr := ⟨n.hr.len, n.hr.nd, fun j b x hj hx => upd_om hw mw (fun z => na (by rw [← z]; exact List.mem_of_getElem? hj)) (n.hr.ob j b x hj hx)⟩
  fr := fun b x e nt nb => by rw [upd_ne (ne_of_none e z)]; exact n.fr b x e nt nb
  nw := n.nw
  tk := fun b ps e => by
    obtain ⟨qs, q⟩ := n.tk b ps e
    exact ⟨qs, by rw [upd_ne (ne_of_none e z)]; exact q⟩
  tb := upd_tabs hw mw n.tb
theorem upd_lt {K : PySem.W.Frag} {ρ : List Addr} {H : Hp} {q : Addr} {u o : HO} (hq : H q = some u) (m : MutO u) : Lt K ρ H ρ (upd H q o) := ⟨List.prefix_refl _, fun _ _ z => upd_sqt hq m z⟩
/-- a family of contexts: any block of this scope -/
def LFam (X : Cx) (scope : Scope) (p : Cx → Prop) : Prop := ∀ (s : Shared) (H : Hp) (C : Addr) (cl : List (Str × Addr)) (fp : List Addr), p (X.blk s H scope (compEnvC scope cl C X.env) fp)
def lcL (g : TGx) (t : TX) (f : EX) (Sw : Env') : List D → Nat → Hs → Option (List D × Hs)
  | [], _, h => some ([], h)
  | d :: ds, k, h => match g d Sw with
    | none => none
    | some S1 => match t S1 h with
      | some (.ok false h1) => lcL g t f Sw ds k h1
      | some (.ok true h1) => match f S1 h1 with
        | some (.ok (.d v) h2) => if k < sizeLine then (match lcL g t f Sw ds (k + 1) h2 with
            | some (vs, h3) => some (v :: vs, h3)
            | none => none) else none
        | _ => none
      | _ => none
def xLc (i : IX) (vs : List Nat) (g : TGx) (t : TX) (f : EX) : EX := fun S h => andThen (i S h) fun ds h1 => match lcL g t f (wipeS S vs) ds 0 h1 with
  | some (xs, h2) => some (.ok (.new (.lst xs)) h2)
  | none => none
section
variable {X : Cx} {c : Cc} {e elt tg iter : Expr} {pos gpos p : Pos} {ifs : List Expr}
theorem tLc_of {vs ts : List Nat} {i : IX} {g : TGx} {t : TX} {f : EX} {σ : L2.St} {H : Hp} {Q : VK} {fz : FZ} (hts : ∀ k, k ∈ ts → k ∈ vs) (q : tE X.K c (xLc i vs g t f) σ H Q) :
    tLc (tI X.K c fz i) (tG X.K c.calm ts g) (tT X.K c.calm t) (tE X.K c.calm f) vs σ H Q := by
  obtain ⟨G, ρ, S, h, s, e⟩ := q
  refine ⟨G, ρ, S, h, s, e.bind (rel := fun ρ' Hb H' J ds => ItR (c.p X.K) (fz G Hb) ρ' H' J ds) fun ds h1 ρ1 H1 J n1 it e1 => fun A hA => ?_⟩
  have zA : H A = none := n1.old hA s.hr
  have nA1 : A ∉ ρ1 := n1.hr.free hA
  have n2 : Nx (c.p X.K) ρ1 H1 ρ1 h1 (upd H1 A (.lst [])) := .alloc n1.hr n1.tb hA
  obtain ⟨Gd, Y, supp, w, hsup, hgd, hy⟩ := it
  let Fin : Nat → Nat → Hp → Prop := fun i m H' => m = ds.length - i ∧ i ≤ ds.length ∧ ∃ ρ' h' av acc, Nx (c.p X.K) ρ H ρ' h' H' ∧ Lt X.K ρ1 H1 ρ' H' ∧ (∀ q ∈ supp, H' q.1 = some q.2 ∧ NoTbl q.2 ∧ q.1 ∉ ρ' ∧ q.1 ≠ A) ∧ A ∉ ρ' ∧ H' A = some (.lst av) ∧ DVs X.K ρ' H' av acc ∧
    match lcL g t f (wipeS S vs) (ds.drop i) acc.length h' with
    | none => False
    | some (xs, h'') => ∀ ρ'' H'' av', Nx (c.p X.K) ρ H ρ'' h'' H'' → A ∉ ρ'' → H'' A = some (.lst av') → DVs X.K ρ'' H'' av' (acc ++ xs) → Q (.ref A) H''
  refine ⟨Fin, ⟨ds.length, by simp, Nat.zero_le _, ρ1, h1, [], [], n1.trans n2, n2.lt n1.hr, fun q m => ?_, nA1, upd_same, .nil, ?_⟩, ?_⟩
  · obtain ⟨a1, a2, a3, _⟩ := hsup q m
    have ne := ne_of_none a1 hA
    exact ⟨by rw [upd_ne ne]; exact a1, a2, a3, ne⟩
  · rw [List.drop_zero]
    have e1 := e1
    cases hL : lcL g t f (wipeS S vs) ds 0 h1 with
    | none => rw [hL] at e1; exact e1
    | some bh => rw [hL] at e1; exact fun ρ'' H'' av' n na ha r => e1 ρ'' H'' _ n ⟨A, rfl, zA, na, av', ha, r⟩
  rintro i m H' ⟨rfl, hi, ρ', h', av, acc, n, l, hs, na, ha, racc, fin⟩
  have gd := hgd H' fun q m => (hs q m).1
  by_cases hlt : i < ds.length
  · refine .inr ⟨w.goes i H' hlt gd, fun H'' => Fin (i + 1) (ds.length - (i + 1)) H'', fun H'' z => ⟨_, by omega, z⟩, fun x H'' y => ?_⟩
    obtain ⟨n3, d, hd, dv⟩ := hy i ρ' h' H' x H'' l (fun q m => (hs q m).1) n.hr n.tb hlt (w.yields i H' x H'' hlt gd y)
    have ed : ds.drop i = d :: ds.drop (i + 1) := by
      obtain ⟨hlt, hv⟩ := List.getElem?_eq_some_iff.mp hd
      rw [List.drop_eq_getElem_cons hlt, hv]
    rw [ed] at fin
    simp only [lcL] at fin
    have n4 := n.trans n3
    have s4 := s.nx n4
    have sup : ∀ {ρa h_a Ha}, Nx (c.p X.K) ρ' H' ρa h_a Ha → (∀ q ∈ supp, Ha q.1 = some q.2 ∧ NoTbl q.2 ∧ q.1 ∉ ρa ∧ q.1 ≠ A) ∧ A ∉ ρa ∧ Ha A = some (.lst av) ∧ DVs X.K ρa Ha av acc := fun {ρa h_a Ha} nn => by
      refine ⟨fun q m => ?_, nn.fresh ha na, nn.fr _ _ ha (by intro ps z; cases z) na, nn.dvs n.hr racc⟩
      obtain ⟨a1, a2, a3, a4⟩ := hs q m
      exact ⟨nn.fr _ _ a1 a2 a3, a2, nn.fresh a1 a3, a4⟩
    refine ⟨G, ρ', wipeS S vs, h', d, s4.wipe vs, dv, ?_⟩
    cases hg : g d (wipeS S vs) with
    | none => rw [hg] at fin; exact fin
    | some S1 =>
      rw [hg] at fin
      simp only at fin
      intro σ2 hl ho s5
      refine ⟨wipe_same hl fun k hk => ho k fun z => hk (hts k z), G, ρ', S1, h', s5, ?_⟩
      cases ht : t S1 h' with
      | none => rw [ht] at fin; exact fin
      | some r =>
        rw [ht] at fin
        cases r with
        | exc cc h3 => exact fin.elim
        | ok b h3 =>
          intro ρ3 H3 b' n5 eb
          cases eb
          have n35 := n3.trans n5
          cases b with
          | false =>
            obtain ⟨q1, q2, q3, q4⟩ := sup n35
            exact iteF ⟨rfl, hlt, ρ3, h3, av, acc, n.trans n35, l.trans (n35.lt n.hr), q1, q2, q3, q4, fin⟩
          | true =>
            refine iteT ⟨G, ρ3, S1, h3, s5.nx n5, ?_⟩
            simp only at fin
            cases hf : f S1 h3 with
            | none => rw [hf] at fin; exact fin
            | some r =>
              rw [hf] at fin
              cases r with
              | exc cc h4 => exact fin.elim
              | ok r h4 =>
                intro ρ4 H4 v n6 rv
                have n36 := n35.trans n6
                obtain ⟨q1, q2, q3, q4⟩ := sup n36
                cases r with
                | d vd =>
                  simp only at fin
                  split at fin
                  · exact fin.elim
                  · rename_i xs h'' heq
                    split at heq
                    · rename_i hk
                      refine ⟨av, q3, by rw [q4.length]; exact hk, rfl, hlt, ρ4, h4, av ++ [v], acc ++ [vd], (n.trans n36).wr zA q3 trivial q2, (l.trans (n36.lt n.hr)).trans (upd_lt q3 trivial), fun q m => ?_, q2, upd_same, ?_, ?_⟩
                      · obtain ⟨a1, a2, a3, a4⟩ := q1 q m
                        exact ⟨by rw [upd_ne a4]; exact a1, a2, a3, a4⟩
                      · exact (upd_dvs q3 trivial q4).append (.cons (upd_dv q3 trivial rv) .nil)
                      · rw [List.length_append, List.length_singleton]
                        cases hL : lcL g t f (wipeS S vs) (ds.drop (i + 1)) (acc.length + 1) h4 with
                        | none => rw [hL] at heq; cases heq
                        | some z =>
                          obtain ⟨ys, h5⟩ := z
                          rw [hL] at heq
                          cases heq
                          exact fun ρ'' H'' av' a b c' d' => fin ρ'' H'' av' a b c' (by rw [List.append_assoc] at d'; exact d')
                    · cases heq
                | _ => exact fin.elim
  · have e : i = ds.length := by omega
    subst e
    rw [List.drop_length] at fin
    exact .inl ⟨w.stops H' gd, fin ρ' H' av n na ha (by rw [List.append_nil]; exact racc)⟩
theorem ce_lc {scope : Scope} {own : List (Str × Nat)} {ts : List Nat} {i : IX} {g : TGx} {t : TX} {f : EX} {fz : FZ} (hc : X.calm = true) (hN : X.N.Nodup) (ok : BlkOk X.N X.env.scope scope own) (hi : CI X c fz tg iter i)
    (hg : LFam X scope fun G => CG G c.calm tg ts g) (ht : LFam X scope fun G => CTs G c.calm ifs t) (he : LFam X scope fun G => CE G c.calm elt f) (hts : ∀ k, k ∈ ts → k ∈ own.map (·.2)) (hs : ∀ x, foldedSetIterable iter X.env x = pure x := by intro _; rfl) :
    CE X c (.ListComp elt [⟨tg, iter, ifs, 0⟩] scope pos) (xLc i (own.map (·.2)) g t f) :=
  pe_weak (pe_lc (g := tG X.K c.calm ts g) (tt := tT X.K c.calm t) (te := tE X.K c.calm f) hc hN hi ok (fun a b d e k => hg a b d e k) (fun a b d e k => ht a b d e k) (fun a b d e k => he a b d e k) hs) fun σ H Q q => tLc_of hts q
/-- name = [..] on one line -/
theorem cs_setLc {ix : Nat} {y : Str} {py spos : Pos} {scope : Scope} {own : List (Str × Nat)} {ts : List Nat} {i : IX} {g : TGx} {t : TX} {f : EX} {fz : FZ} (hc : X.calm = true) (hN : X.N.Nodup) (hy : X.N[ix]? = some y) (hyl : X.env.scope.names.lookup y = some .local)
    (hsw : swapsWith (.ListComp elt [⟨tg, iter, ifs, 0⟩] scope pos) (some (.Name y py)) spos.line X.env = pure true) (ok : BlkOk X.N X.env.scope scope own) (hi : CI X c fz tg iter i)
    (hg : LFam X scope fun G => CG G c.calm tg ts g) (ht : LFam X scope fun G => CTs G c.calm ifs t) (he : LFam X scope fun G => CE G c.calm elt f) (hts : ∀ k, k ∈ ts → k ∈ own.map (·.2)) (hs : ∀ x, foldedSetIterable iter X.env x = pure x := by intro _; rfl) :
    CS X c (.Assign [.Name y py] (.ListComp elt [⟨tg, iter, ifs, 0⟩] scope pos) spos) (sSet ix (xLc i (own.map (·.2)) g t f)) := by
  refine ps_weak (ps_setLc (g := tG X.K c.calm ts g) (tt := tT X.K c.calm t) (te := tE X.K c.calm f) hc hN hy hyl hsw hi ok (fun a b d e k => hg a b d e k) (fun a b d e k => ht a b d e k) (fun a b d e k => he a b d e k) hs) fun D σ H q => ?_
  obtain ⟨G, ρ, S, h, s, e⟩ := q
  refine tLc_of (Q := fun x H1 => gName ix x σ H1 D.nx) hts ⟨G, ρ, S, h, s, Sd.ex s (.refl s.hr s.tb) e (rel := RV (c.p X.K)) fun r h1 ρ1 H1 v n1 rv e1 => ?_⟩
  cases hsl : slOf r with
  | none => simp only [hsl] at e1; exact e1.elim
  | some sl =>
    simp only [hsl] at e1
    exact e1 G ρ1 _ H1 (fun _ m => m) (n1.lt s.hr) (s.put n1 rv hsl)
end
end Sh
set_option Elab.async false
set_option linter.all false
set_option maxRecDepth 100000
set_option maxHeartbeats 1000000
namespace Sh
open PySem PySem.Spec PyProof.Rows L2
/-! ### defs -/
def slA : R → Sl
  | .d x => .d x
  | .new k => .bor k
  | .bor k => .bor k
def startS (n : Nat) (rs : List R) : Env' := rs.map slA ++ List.replicate (n - rs.length) .none
section
variable {p : Pm} {ρ ρ1 ρ2 : List Addr} {h h1 h2 : Hs} {Hb H H1 H2 : Hp}
theorem RV.slot {v : V} {r : R} (hr : HR p ρ h H) (q : RV p ρ Hb H v r) : SV p ρ [] H H (slA r) (some v) := by
  have kn : ∀ {a : Addr} {k : Cn}, BR p ρ H (fun _ => True) a k → BR p ρ H (Kn [] H) a k := fun {a k} b => by
    cases k with
    | lst ds => obtain ⟨vs, r, e, na, _⟩ := b; exact ⟨vs, r, e, na, .inl (by rw [e]; exact fun z => by cases z)⟩
    | dct kd => obtain ⟨vs, r, e, na, _⟩ := b; exact ⟨vs, r, e, na, .inl (by rw [e]; exact fun z => by cases z)⟩
    | fz ds =>
      obtain ⟨vs, r, q | ⟨⟨o, e⟩, na, _⟩⟩ := b
      · exact ⟨vs, r, .inl q⟩
      · exact ⟨vs, r, .inr ⟨⟨o, e⟩, na, .inl (by rw [e]; exact fun z => by cases z)⟩⟩
  cases r with
  | d x => exact ⟨v, rfl, q⟩
  | new k => obtain ⟨a, rfl, z, na, m⟩ := q; exact ⟨a, rfl, kn (m.br na trivial)⟩
  | bor k => obtain ⟨a, rfl, m⟩ := q; exact ⟨a, rfl, kn m⟩
theorem RVs.get : ∀ {vs : List V} {rs : List R} {i : Nat} {r : R}, RVs p ρ Hb H vs rs → rs[i]? = some r → ∃ v, vs[i]? = some v ∧ RV p ρ Hb H v r
  | _, _, _, _, .nil, e => by simp at e
  | _, _, 0, _, .cons h _, e => by simp at e; subst e; exact ⟨_, rfl, h⟩
  | _, _, i + 1, r, .cons _ t, e => by
    obtain ⟨v, e1, e2⟩ := RVs.get (i := i) (r := r) t (by simpa using e)
    exact ⟨v, by simpa using e1, e2⟩
theorem slA_own (r : R) : isOwn (slA r) = false := by cases r <;> rfl
theorem startS_get {n i : Nat} {rs : List R} {s : Sl} (e : (startS n rs)[i]? = some s) : (∃ r, rs[i]? = some r ∧ s = slA r) ∨ (s = .none ∧ rs.length ≤ i ∧ i < rs.length + (n - rs.length)) := by
  unfold startS at e
  by_cases hi : i < rs.length
  · rw [List.getElem?_append_left (by simpa using hi), List.getElem?_map] at e
    cases hr : rs[i]? with
    | none => rw [hr] at e; cases e
    | some r => rw [hr] at e; cases e; exact .inl ⟨r, rfl, rfl⟩
  · rw [List.getElem?_append_right (by simpa using hi), List.getElem?_replicate] at e
    split at e
    · rename_i hlt
      cases e
      simp only [List.length_map] at hlt
      exact .inr ⟨rfl, by omega, by omega⟩
    · cases e
theorem stt_start {N : List Str} {vs : List V} {rs : List R} (hr : HR p ρ h H) (tb : LamX.Tabs p.T H) (q : RVs p ρ Hb H vs rs) : Stt p ρ H [] ρ (startS N.length rs) h (L2.start N vs) H where
  hr := hr
  tb := tb
  pre := List.prefix_refl _
  fr := fun _ _ e _ _ => e
  nw := fun _ m => .inl m
  tk := fun _ ps e => ⟨ps, e⟩
  gh := fun q m => absurd m (by simp)
  len := by
    have := q.length
    unfold startS L2.start
    simp only [List.length_append, List.length_map, List.length_replicate]
    omega
  sl := fun i s e => by
    have hl := q.length
    rcases startS_get e with ⟨r, e1, rfl⟩ | ⟨rfl, h1, h2⟩
    · obtain ⟨v, e2, rv⟩ := q.get e1
      refine ⟨some v, ?_, rv.slot hr⟩
      have hi := (List.getElem?_eq_some_iff.mp e2).1
      unfold L2.start
      rw [List.getElem?_append_left (by simpa using hi), List.getElem?_map, e2]
      rfl
    · refine ⟨none, ?_, trivial⟩
      unfold L2.start
      rw [List.getElem?_append_right (by simp only [List.length_map]; omega), List.getElem?_replicate, if_pos (by simp only [List.length_map]; omega)]
  ap := fun i j s t a _ e _ os _ _ => by
    rcases startS_get e with ⟨r, _, rfl⟩ | ⟨rfl, _, _⟩
    · rw [slA_own] at os; cases os
    · cases os
end
/-- a def's end as a call's -/
def fnRes : Option Out → Option (Rs R)
  | some (.ret r h) => some (.ok r h)
  | some (.nx _ h) => some (.ok (.d .non) h)
  | some (.exc c _ h) => some (.exc c h)
  | _ => none
abbrev Fd := List R → Hs → Option (Rs R)
def denF (np n : Nat) (body : SX) : Fd := fun rs h => if rs.length = np then fnRes (body (startS n rs) h) else none
def spF (p : Pm) (np : Nat) (g : Fd) : Sp := fun vs H Q E => vs.length = np ∧ ∃ ρ h Ha rs, HR p ρ h H ∧ LamX.Tabs p.T H ∧ RVs p ρ Ha H vs rs ∧ Ed p E ρ H (g rs h) (RV p) Q
theorem spF_none {p : Pm} {np : Nat} {vs : List V} {H : Hp} {Q : VK} {E : XK} (h : spF p np (fun _ _ => none) vs H Q E) : False := by
  obtain ⟨_, ρ, h, Ha, rs, _, _, _, e⟩ := h
  exact e
section
variable {P : Program} {w : World} {K : PySem.W.Frag} {mg : Str → Option Value} {base : Heap}
/-- a def by its body's reading -/
theorem fn_den {T : List (Addr × Str)} {cad : Str → Addr} {k : Nat} {f : Addr} {name qual : Str} {params : Arguments} {body : List Stmt} {scope : Scope} {dV kV doc pm cdv ct oc : Value} {an od : Option Addr} {osl : Array (Option Value)} {N ps : List Str} {g : SX}
    (lk : K.lookup f = some ⟨oc, od, .func (PySem.W.fnOf name qual params body scope dV kV doc pm an cdv ct), osl⟩) (hcd : PySem.W.codeIn K cdv qual = true) (S : FnScope N ps scope)
    (hb : ∀ (A : Around) (outer : List Env) (s : Shared) (ρ0 : List Addr) (H : Hp) (E : XK), Room k (A.deeper (envOfC qual scope s.heap.objs.size f cdv)) →
      CSs (cxOf (L2.CX P w) P w K mg base N qual scope f cdv A outer s H E) ⟨T, cad, ρ0, H, fun cls d _ H' => E cls d H'⟩ body g) :
    FnOk P w K mg base (L2.CX P w) (k + 1) f (PySem.W.fnOf name qual params body scope dV kV doc pm an cdv ct) ps (spF ⟨K, T, cad⟩ ps.length (denF ps.length N.length g)) := by
  refine fn_of lk hcd S (fun vs H Q E h => h.1) fun A outer s H vs Q E hr hsp => ?_
  obtain ⟨hl, ρ, h, Ha, rs, h1, h2, h3, e⟩ := hsp
  refine ⟨_, hb A outer s ρ H E hr, [], ρ, startS N.length rs, h, stt_start h1 h2 h3, ?_⟩
  unfold denF at e
  split at e
  · show Sd _ _ _ _ _ _ _ _ (g (startS N.length rs) h)
    cases hg : g (startS N.length rs) h with
    | none => rw [hg] at e; exact e
    | some o =>
      rw [hg] at e
      cases o with
      | nx S' h' => exact fun G' ρ' σ' H' _ _ s' => e ρ' H' .non s'.whole .non
      | brk S' h' => exact e.elim
      | ct S' h' => exact e.elim
      | ret r h' => exact fun ρ' H' v n rv => e ρ' H' v n rv
      | exc c S' h' => exact fun G' ρ' σ' H' _ _ s' => e ρ' H' s'.whole
  · exact e.elim
end
section
variable {X : Cx} {c : Cc} {e : Expr} {pos p : Pos} {x : Str}
/-- f(e, ..) -/
def opC (np : Nat) (g : Fd) (fa : AX) : EX := fun S h => andThen (fa S h) fun rs h1 => if rs.length = np then g rs h1 else none
theorem Ed.back {p : Pm} {W : XK} {ρ ρ1 : List Addr} {h h1 : Hs} {H H1 : Hp} {o : Option (Rs R)} {Q : VK} (hr : HR p ρ h H) (n : Nx p ρ H ρ1 h1 H1) (e : Ed p W ρ H o (RV p) Q) : Ed p W ρ1 H1 o (RV p) Q := e.later n fun _ _ _ _ z => z.back n hr
theorem ce_call {k np : Nat} {f : Addr} {fd : FuncData} {ps : List Str} {g : Fd} {fa : AX} {es : List Expr} (F : FnOk X.prog X.w X.K X.mg X.base (L2.CX X.prog X.w) k f fd ps (spF (c.p X.K) np g)) (hr : Room k X.A) (hg : Gl X x) (hm : X.mg x = some (.ref f)) (hk : PySem.W.keepIn X.K (.ref f) = true)
    (hb : Binds X.K fd ps []) (tk : Takes X c.W) (ha : CA X c (e :: es) fa) (hdb : (x == ("__debug__" : Str)) = false := by decide) (he : starEach (e :: es) X.env = (false, eval e X.env) :: starEach es X.env := by rfl) (hpl : (backTo pos (starEach es X.env)).any (·.1) = false := by rfl) :
    CE X c (.Call (.Name x p) (e :: es) [] pos) (opC np g fa) := by
  refine pe_weak (pe_callS F hr hg hm hk hb (fun σ => passAt tk σ) ha hdb he hpl) fun σ H Q q => ?_
  obtain ⟨G, ρ, S, h, s, e⟩ := q
  refine ⟨G, ρ, S, h, s, e.bind (rel := RVs (c.p X.K)) fun rs h1 ρ1 H1 vs n1 rv e1 => ?_⟩
  split at e1
  · rename_i hl
    exact ⟨by rw [rv.length]; exact hl, ρ1, h1, H, rs, n1.hr, n1.tb, rv, e1.back s.hr n1⟩
  · exact e1.elim
theorem ce_call0 {k : Nat} {f : Addr} {fd : FuncData} {ps : List Str} {g : Fd} (F : FnOk X.prog X.w X.K X.mg X.base (L2.CX X.prog X.w) k f fd ps (spF (c.p X.K) 0 g)) (hr : Room k X.A) (hg : Gl X x) (hm : X.mg x = some (.ref f)) (hk : PySem.W.keepIn X.K (.ref f) = true)
    (hb : Binds X.K fd ps []) (tk : Takes X c.W) (hdb : (x == ("__debug__" : Str)) = false := by decide) :
    CE X c (.Call (.Name x p) [] [] pos) (opC 0 g aNil) := by
  refine ⟨fun pins s σ H Q I q => ?_⟩
  refine wpAny_Call_Name_kw (ld_glob I hg hm ?_ hdb)
  refine PySem.W.callWith_K0 I.kIn hk (run_fnS (us := []) F hr hb (passAt tk σ) I .nil ?_)
  obtain ⟨G, ρ, S, h, st, e⟩ := q
  exact ⟨rfl, ρ, h, H, [], st.hr, st.tb, .nil, e⟩
/-! ### raise -/
def sRaise (cn : Str) (f : AX) : SX := fun S h => thenS S (f S h) fun rs h1 => if rs.length ≤ sizeLine then some (.exc cn S h1) else none
theorem pmk_own0 {C : Addr} {bmB : List Value} {B newId initId : String} (F : ExcBaseFacts B newId initId bmB) (q : PySem.W.excIn X.K C bmB newId = true) (gC : X.mg x = some (.ref C)) (kC : PySem.W.keepIn X.K (.ref C) = true) (r : Raises X (.ref C)) (hg : Gl X x)
    (hdb : (x == ("__debug__" : Str)) = false := by decide) : PMk X (.Call (.Name x p) [] [] pos) (fun _ H Q => Q (.ref C) none H) := by
  intro pins s σ H Q I h
  refine wpAny_Call_Name_kw (ld_glob I hg gC ?_ hdb)
  refine PySem.W.callWith_K0 I.kIn kC ?_
  show wpAny _ _ (call (.ref C) []) _ _ _
  obtain ⟨bm, N, nm, qn, bs, hdct, sn, sub, ab, col, dd, k0, k1, k2, k3, k5, mN, hC, hN, hni, T⟩ := exc_obj I.kIn q
  refine wpAny_call_exc_subT F T hC hN hni (fun h' e hm => ?_) (Nat.zero_le _)
  exact mk_of I hm r h (I.hok.gone hm.new)
/-- what the written part says of an own exception class without its own __init__ -/
structure ExcAt (X : Cx) (c : Cc) (x cn : Str) : Prop where
  ex : ∃ (bmB : List Value) (B newId initId : String), ExcBaseFacts B newId initId bmB ∧ PySem.W.excIn X.K (c.cad cn) bmB newId = true
  g : X.mg x = some (.ref (c.cad cn))
  k : PySem.W.keepIn X.K (.ref (c.cad cn)) = true
  r : Raises X (.ref (c.cad cn))
theorem cs_raise {cn : Str} {es : List Expr} {f : AX} {pos2 : Pos} (hc : X.calm = true) (tk : Takes X c.W) (ec : ExcAt X c x cn) (hg : Gl X x) (ha : CA X c (e :: es) f) (hdb : (x == ("__debug__" : Str)) = false := by decide)
    (he : starEach (e :: es) X.env = (false, eval e X.env) :: starEach es X.env := by rfl) (hpl : (backTo pos (starEach es X.env)).any (·.1) = false := by rfl) : CS X c (.Raise (some (.Call (.Name x p) (e :: es) [] pos)) none pos2) (sRaise cn f) := by
  obtain ⟨bmB, B, n1, n2, F, q⟩ := ec.ex
  refine ps_weak (ps_raise hc tk (pmk_ownA F q ec.g ec.k ec.r hg ha hdb he hpl)) fun D σ H q => ?_
  obtain ⟨G, ρ, S, h, s, e⟩ := q
  refine ⟨G, ρ, S, h, s, Sd.ex s (.refl s.hr s.tb) e (rel := RVs (c.p X.K)) fun rs h1 ρ1 H1 vs n1 rv e1 => ?_⟩
  split at e1
  · rename_i hl
    exact ⟨by rw [rv.length]; exact hl, e1 G ρ1 σ H1 (fun _ m => m) (n1.lt s.hr) (s.nx n1)⟩
  · exact e1.elim
theorem cs_raise0 {cn : Str} {pos2 : Pos} (hc : X.calm = true) (tk : Takes X c.W) (ec : ExcAt X c x cn) (hg : Gl X x) (hdb : (x == ("__debug__" : Str)) = false := by decide) : CS X c (.Raise (some (.Call (.Name x p) [] [] pos)) none pos2) (sRaise cn aNil) := by
  obtain ⟨bmB, B, n1, n2, F, q⟩ := ec.ex
  refine ps_weak (ps_raise hc tk (pmk_own0 F q ec.g ec.k ec.r hg hdb)) fun D σ H q => ?_
  obtain ⟨G, ρ, S, h, s, e⟩ := q
  have e : Sd _ _ _ _ _ _ _ _ (sRaise cn aNil S h) := e
  unfold sRaise aNil thenS at e
  simp only [List.length_nil, Nat.zero_le, if_true] at e
  exact e G ρ σ H (fun _ m => m) .refl s
/-! ### try .. except C: -/
def calmS : Option Out → Option Out
  | some (.exc _ _ _) => none
  | r => r
def sTry (m : Str → Option Bool) (fb fs : SX) : SX := fun S h => match fb S h with
  | some (.exc cn S1 h1) => (match m cn with
    | some true => calmS (fs S1 h1)
    | some false => some (.exc cn S1 h1)
    | none => none)
  | r => r
theorem cs_try_only {cv : Value} {body suite : List Stmt} {b₀ : Stmt} {np pos pos' : Pos} {m : Str → Option Bool} {fb fs : SX} (hs : X.stack = X.env :: X.outer) (hf : X.env.frame = some X.env.locals) (hc : Names X x cv) (tk : Takes X c.W)
    (hm : ∀ cn b, m cn = some b → PySem.W.exmOne X.K (.ref (c.cad cn)) cv = some b)
    (hb : ∀ (W : WX) (pn : List (Addr × Obj)) (xe : Value → Shared → Prop), Takes (X.tr pn xe) W → PassesOwn (model X.prog X.w) X.A X.env xe → CSs (X.tr pn xe) { c with W := W } body fb)
    (hsu : ∀ (a : Addr) (pn : List (Addr × Obj)), CSs (X.suite a pn) c.calm (b₀ :: suite) fs) :
    CS X c (.Try body [.ExceptHandler (some (.Name x np)) none (b₀ :: suite) pos'] [] [] pos) (sTry m fb fs) := by
  refine ps_weak (ps_try_only (tb := fun W => tS X.K { c with W := W } fb) (ts := fun _ _ _ => tS X.K c.calm fs) (Wout := c.W) hs hf hc tk hb (fun a oe cls d pn _ _ => hsu a ((a, oe) :: pn))) fun D σ H q => ?_
  obtain ⟨G, ρ, S, h, s, e⟩ := q
  refine ⟨G, ρ, S, h, s, ?_⟩
  have e : Sd _ _ _ _ _ _ _ _ (sTry m fb fs S h) := e
  unfold sTry at e
  show Sd _ _ _ _ _ _ _ _ (fb S h)
  cases hfb : fb S h with
  | none => rw [hfb] at e; exact e
  | some r =>
    rw [hfb] at e
    cases r with
    | exc cn S1 h1 =>
      simp only at e
      intro G' ρ' σ' H' hg l s'
      cases hmc : m cn with
      | none => rw [hmc] at e; exact e.elim
      | some b =>
        rw [hmc] at e
        refine ⟨b, hm cn b hmc, fun hb a ha => ?_, fun hb => ?_⟩
        · subst hb
          simp only at e
          refine ⟨G', ρ', S1, h1, s', ?_⟩
          have e := Sd.later e l hg
          show Sd _ _ _ _ _ _ _ _ (fs S1 h1)
          cases hfs : fs S1 h1 with
          | none => rw [hfs] at e; exact e
          | some r =>
            rw [hfs] at e
            cases r with
            | exc cn S1 h1 => exact e.elim
            | _ => exact e
        · subst hb
          exact e G' ρ' σ' H' hg l s'
    | nx S1 h1 => exact e
    | brk S1 h1 => exact e
    | ct S1 h1 => exact e
    | ret r h1 => exact e
end
end Sh
set_option Elab.async false
set_option linter.all false
set_option maxRecDepth 100000
set_option maxHeartbeats 1000000
/-! enumerate over reversed(a list or a tuple) -/
namespace Sh
open PySem PySem.Spec PyProof.Rows L2
section
variable {prog : Program} {w : World} {A : Around} {E : Value → Shared → Prop} {s : Shared}
theorem of_rev_item {it l : Addr} {i : Nat} {items : Array Value} {x : Value} {Q : Value → Shared → Prop} (hit : s.heap.IsRevIter it l (i : Int)) (hl : s.heap.IsList l items) (hx : items[i]? = some x)
    (hQ : ∀ h', h'.IsRevIter it l ((i : Int) - 1) → Heap.SameBut it s.heap h' → Q x { s with heap := h' }) : wpAny (model prog w) A (Builtin.SmallTypes.nextOf (.ref it)) Q E s := by
  obtain ⟨o, ho, hc, hd⟩ := id hit
  obtain ⟨ol, hol, _, nl, hdl⟩ := hl
  unfold Builtin.SmallTypes.nextOf
  refine wpAny_bind (wpAny_callSpecial?_slot (name := Str.ofString "__next__") hit.typeIs F.slot_lri_next
    (wpAny_call_entry F.slot_lri_next hit.typeIs F.entry_lri_next ?_ (F.args_lri_next_1 _)))
  unfold Builtin.«list_reverseiterator.__next__»
  refine wpAny_bind (wpAny_of_eq (a := (Value.ref it, [])) rfl ?_)
  try dsimp only
  refine wpAny_bind (wpAny_field ho hd (x := rawInt (i : Int)) rfl ?_)
  show wpAny _ _ (if (i : Int) < 0 then _ else _) _ _ s
  rw [if_neg (by omega)]
  show wpAny _ _ (field (.ref it) 0 >>= _) _ _ s
  refine wpAny_bind (wpAny_field ho hd (x := .ref l) rfl ?_)
  show wpAny _ _ (seqItems? (.ref l) >>= _) _ _ s
  refine wpAny_bind (wpAny_seqItems hol hdl ?_)
  simp only [Int.toNat_natCast, hx]
  refine wpAny_bind (wpAny_setField ho hd (by simp) ?_)
  first
  | refine wpAny_pure ⟨x, rfl, wpAny_pure (hQ _ ?_ (Heap.SameBut.update ..))⟩
  | refine wpAny_bind (wpAny_pure (wpAny_pure ⟨x, rfl, wpAny_pure (hQ _ ?_ (Heap.SameBut.update ..))⟩))
  exact ⟨_, Heap.get?_update_self _ ho (Obj.isFreed_of_fields (Obj.data_mapFields hd _)), (Obj.cls_mapFields ..).trans hc, by
    rw [Obj.data_mapFields hd]; simp⟩
theorem of_rev_end {it l : Addr} {Q : Value → Shared → Prop} (hh : A.handled = none) (hit : s.heap.IsRevIter it l (-1))
    (hE : ∀ h' e, Heap.ExtBut it s.heap h' → (∃ o, h'.get? e = some o ∧ o.cls = .type "StopIteration") → E (.ref e) { s with heap := h' }) : wpAny (model prog w) A (Builtin.SmallTypes.nextOf (.ref it)) Q E s := by
  obtain ⟨o, ho, hc, hd⟩ := id hit
  unfold Builtin.SmallTypes.nextOf
  refine wpAny_bind (wpAny_callSpecial?_slot (name := Str.ofString "__next__") hit.typeIs F.slot_lri_next
    (wpAny_call_entry F.slot_lri_next hit.typeIs F.entry_lri_next ?_ (F.args_lri_next_1 _)))
  unfold Builtin.«list_reverseiterator.__next__»
  refine wpAny_bind (wpAny_of_eq (a := (Value.ref it, [])) rfl ?_)
  try dsimp only
  refine wpAny_bind (wpAny_field ho hd (x := rawInt (-1)) rfl ?_)
  show wpAny _ _ (if (-1 : Int) < 0 then _ else _) _ _ s
  rw [if_pos (by decide)]
  refine wpAny_bind (wpAny_rule ?_)
  first
  | show wpAny _ _ (newExc (.type "StopIteration") [] >>= _) _ _ _
  | (refine wpAny_bind ?_; show wpAny _ _ (newExc (.type "StopIteration") [] >>= _) _ _ _)
  refine wpAny_bind ?_
  simp only [newExc, newTuple]
  refine wpAny_bind (wpAny_newObj_type ?_ (by size_fits))
  refine wpAny_bind (m := firstArgMember _ _) (wpAny_of_eq (a := Value.none) (by first | rfl | (simp only [firstArgMember]; rfl)) ?_)
  refine wpAny_newObj_type ?_ (by size_fits)
  simp only [raiseNew]
  refine wpAny_bind (wpAny_handled ?_)
  first | rw [show A.in1.handled = none from hh] | rw [hh]
  refine wpAny_bind (wpAny_pure (wpAny_throw ?_))
  refine hE _ _ ?_ ⟨_, Heap.get?_push_size _ rfl, rfl⟩
  first
    | exact ((Heap.SameBut.update ..).extBut.push _).push _
    | exact ((Heap.ExtBut.refl it _).push _).push _
theorem of_rt_item {it t : Addr} {i : Nat} {items : Array Value} {x : Value} {Q : Value → Shared → Prop} (hit : RT.IsRt s.heap it t (i : Int)) (ht : IsTup s.heap t items) (hx : items[i]? = some x) (hsz : items.size ≤ sizeLine)
    (hQ : ∀ h', RT.IsRt h' it t ((i : Int) - 1) → Heap.SameBut it s.heap h' → Q x { s with heap := h', toks := s.toks + 1 }) : wpAny (model prog w) A (Builtin.SmallTypes.nextOf (.ref it)) Q E s := by
  obtain ⟨o, ho, hc, hd⟩ := id hit
  have hi : i < items.size := (Array.getElem?_eq_some_iff.mp hx).1
  have hT : s.TypeIs (.ref t) "tuple" := RT.IsTup.typeOf' ht
  rw [sizeLine_eq] at hsz
  unfold Builtin.SmallTypes.nextOf
  refine wpAny_bind (wpAny_callSpecial?_slot (name := Str.ofString "__next__") hit.typeIs RT.slot_rt_next
    (wpAny_call_entry RT.slot_rt_next hit.typeIs RT.entry_rt_next ?_ (RT.args_rt_next _)))
  unfold Builtin.«reversed.__next__»
  refine wpAny_bind (wpAny_of_eq (a := (Value.ref it, [])) rfl ?_)
  try dsimp only
  refine wpAny_bind (wpAny_field ho hd (x := .ref t) rfl ?_)
  try dsimp only
  refine wpAny_bind (wpAny_field ho hd (x := rawInt (i : Int)) rfl ?_)
  show wpAny _ _ (if (i : Int) < 0 then _ else _) _ _ s
  rw [if_neg (by omega)]
  try dsimp only
  refine wpAny_bind (wpAny_specialOf hT RT.get_tuple ?_)
  try dsimp only
  try rw [if_neg (by decide)]
  try dsimp only
  refine wpAny_bind (wpAny_mkInt ?_)
  refine wpAny_bind (wpAny_attempt ?_)
  have fin : seqIndex? (i : Int) items.size = some i := seqIndex_of (by omega) (by omega)
  refine PyProof.Rows.getItem_tuple (s := { s with toks := s.toks + 1 }) ht (by omega) (by omega) fin hx ?_
  try dsimp only
  refine wpAny_bind (wpAny_field (s := { s with toks := s.toks + 1 }) ho hd (x := rawInt (i : Int)) rfl ?_)
  try dsimp only
  refine wpAny_bind (wpAny_setField (s := { s with toks := s.toks + 1 }) ho hd (by simp) ?_)
  first
  | refine wpAny_pure ⟨x, rfl, wpAny_pure (hQ _ ?_ (Heap.SameBut.update ..))⟩
  | refine wpAny_bind (wpAny_pure (wpAny_pure ⟨x, rfl, wpAny_pure (hQ _ ?_ (Heap.SameBut.update ..))⟩))
  exact ⟨_, Heap.get?_update_self _ ho (Obj.isFreed_of_fields (Obj.data_mapFields hd _)), (Obj.cls_mapFields ..).trans hc, by
    rw [Obj.data_mapFields hd]; simp⟩
theorem of_rt_end {it t : Addr} {Q : Value → Shared → Prop} (hh : A.handled = none) (hit : RT.IsRt s.heap it t (-1))
    (hE : ∀ h' e, Heap.ExtBut it s.heap h' → (∃ o, h'.get? e = some o ∧ o.cls = .type "StopIteration") → E (.ref e) { s with heap := h' }) : wpAny (model prog w) A (Builtin.SmallTypes.nextOf (.ref it)) Q E s := by
  obtain ⟨o, ho, hc, hd⟩ := id hit
  unfold Builtin.SmallTypes.nextOf
  refine wpAny_bind (wpAny_callSpecial?_slot (name := Str.ofString "__next__") hit.typeIs RT.slot_rt_next
    (wpAny_call_entry RT.slot_rt_next hit.typeIs RT.entry_rt_next ?_ (RT.args_rt_next _)))
  unfold Builtin.«reversed.__next__»
  refine wpAny_bind (wpAny_of_eq (a := (Value.ref it, [])) rfl ?_)
  try dsimp only
  refine wpAny_bind (wpAny_field ho hd (x := .ref t) rfl ?_)
  try dsimp only
  refine wpAny_bind (wpAny_field ho hd (x := rawInt (-1)) rfl ?_)
  show wpAny _ _ (if (-1 : Int) < 0 then _ else _) _ _ s
  rw [if_pos (by decide)]
  try dsimp only
  refine wpAny_bind (wpAny_rule ?_)
  refine wpAny_bind ?_
  wp_delta
  refine wpAny_bind (wpAny_setField ho hd (by simp) ?_)
  have ho2 := Heap.get?_update_self (Obj.mapFields (·.setIfInBounds 1 (rawInt (-1)))) ho (Obj.isFreed_of_fields (Obj.data_mapFields hd _))
  refine wpAny_setField (s := { s with heap := s.heap.update it (Obj.mapFields (·.setIfInBounds 1 (rawInt (-1)))) }) ho2 (Obj.data_mapFields hd _) (by simp) ?_
  try dsimp only
  first
  | show wpAny _ _ (newExc (.type "StopIteration") [] >>= _) _ _ _
  | (refine wpAny_bind ?_; show wpAny _ _ (newExc (.type "StopIteration") [] >>= _) _ _ _)
  | (refine wpAny_bind ?_; wp_delta; show wpAny _ _ (newExc (.type "StopIteration") [] >>= _) _ _ _)
  refine wpAny_bind ?_
  simp only [newExc, newTuple]
  refine wpAny_bind (wpAny_newObj_type ?_ (by size_fits))
  refine wpAny_bind (m := firstArgMember _ _) (wpAny_of_eq (a := Value.none) (by first | rfl | (simp only [firstArgMember]; rfl)) ?_)
  refine wpAny_newObj_type ?_ (by size_fits)
  simp only [raiseNew]
  refine wpAny_bind (wpAny_handled ?_)
  first | rw [show A.in1.handled = none from hh] | rw [hh]
  refine wpAny_bind (wpAny_pure (wpAny_throw ?_))
  refine hE _ _ ?_ ⟨_, Heap.get?_push_size _ rfl, rfl⟩
  refine ((?_ : Heap.ExtBut it s.heap _).push _).push _
  exact fun b ob hb e => (Heap.get?_update_other _ _ (Ne.symm hb)).trans ((Heap.get?_update_other _ _ (Ne.symm hb)).trans e)
end
theorem draws_rev {prog : Program} {w : World} {A : Around} (hh : A.handled = none) (it l : Addr) (hne : l ≠ it) (items : Array Value) :
    Draws prog w A it [it, l] items.size (fun i v => items[items.size - 1 - i]? = some v) (fun i h => i ≤ items.size ∧ h.IsRevIter it l ((items.size : Int) - 1 - (i : Int)) ∧ h.IsList l items) where
  live := fun _ _ st => let ⟨_, ⟨o, ho, _⟩, _⟩ := st; ⟨o, ho⟩
  frame := fun _ _ _ st hk => ⟨st.1, st.2.1.at fun o e => hk it (by simp) o e, st.2.2.at fun o e => hk l (by simp) o e⟩
  item := fun i s Q E hi st hQ => by
    have e1 : (items.size : Int) - 1 - (i : Int) = ((items.size - 1 - i : Nat) : Int) := by omega
    have hit := st.2.1
    rw [e1] at hit
    have hx : items[items.size - 1 - i]? = some (items[items.size - 1 - i]'(by omega)) := Array.getElem?_eq_getElem (by omega)
    refine of_rev_item hit st.2.2 hx fun h' hit' hs' => ?_
    have e2 : ((items.size - 1 - i : Nat) : Int) - 1 = (items.size : Int) - 1 - ((i + 1 : Nat) : Int) := by omega
    rw [e2] at hit'
    exact hQ _ h' s.toks hx ⟨hi, hit', st.2.2.at fun o eo => (hs'.2 l hne).trans eo⟩ hs'
  done := fun s Q E st hE => by
    have e : (items.size : Int) - 1 - (items.size : Int) = -1 := by omega
    have hit := st.2.1
    rw [e] at hit
    exact of_rev_end hh hit hE
theorem draws_rt {prog : Program} {w : World} {A : Around} (hh : A.handled = none) (it l : Addr) (hne : l ≠ it) (items : Array Value) (hsz : items.size ≤ sizeLine) :
    Draws prog w A it [it, l] items.size (fun i v => items[items.size - 1 - i]? = some v) (fun i h => i ≤ items.size ∧ RT.IsRt h it l ((items.size : Int) - 1 - (i : Int)) ∧ IsTup h l items) where
  live := fun _ _ st => let ⟨_, ⟨o, ho, _⟩, _⟩ := st; ⟨o, ho⟩
  frame := fun _ _ _ st hk => ⟨st.1, st.2.1.at fun o e => hk it (by simp) o e, let ⟨o, ho, r⟩ := st.2.2; ⟨o, hk l (by simp) o ho, r⟩⟩
  item := fun i s Q E hi st hQ => by
    have e1 : (items.size : Int) - 1 - (i : Int) = ((items.size - 1 - i : Nat) : Int) := by omega
    have hit := st.2.1
    rw [e1] at hit
    have hx : items[items.size - 1 - i]? = some (items[items.size - 1 - i]'(by omega)) := Array.getElem?_eq_getElem (by omega)
    refine of_rt_item hit st.2.2 hx hsz fun h' hit' hs' => ?_
    have e2 : ((items.size - 1 - i : Nat) : Int) - 1 = (items.size : Int) - 1 - ((i + 1 : Nat) : Int) := by omega
    rw [e2] at hit'
    exact hQ _ h' (s.toks + 1) hx ⟨hi, hit', let ⟨o, ho, r⟩ := st.2.2; ⟨o, (hs'.2 l hne).trans ho, r⟩⟩ hs'
  done := fun s Q E st hE => by
    have e : (items.size : Int) - 1 - (items.size : Int) = -1 := by omega
    have hit := st.2.1
    rw [e] at hit
    exact of_rt_end hh hit hE
/-- enumerate(v), v an iterator -/
theorem meets_enum_it {v : Addr} {H : Heap → Prop} (B : ∀ (prog : Program) (w : World) (A : Around) (E : Value → Shared → Prop) (s : Shared) (Q : Value → Shared → Prop), H s.heap → Q (.ref v) s → wpAny (model prog w) A (pyIter (.ref v)) Q E s) :
    Meets (Builtin.«enumerate.__new__» ⟨[.type "enumerate", .ref v], []⟩) (fun _ R s => H s.heap ∧
      R (.ok (.ret (.ref s.heap.objs.size))) { s with heap := s.heap.push { cls := .type "enumerate", data := .fields #[.none, .bool false, .ref v, rawInt 0, .none, .none] } }) :=
  .of_wp fun prog w A R s h => by
    obtain ⟨hp, g, d, tk, os⟩ := s; obtain ⟨h1, h⟩ := h
    have hsub := sub_enumerate
    have q1 : ∀ {A' : Around} {E : Value → Shared → Prop} {Q : Value → Shared → Prop}, Q (.ref v) ⟨hp, g, d, tk, os⟩ → wpAny (model prog w) A' (pyIter (.ref v)) Q E ⟨hp, g, d, tk, os⟩ :=
      fun q => B prog w _ _ ⟨hp, g, d, tk, os⟩ _ h1 q
    wp_walk using q1
    refine wpAny_stack_any fun st => wpAny_pure ?_
    split
    · rename_i c _ _ _ _ _
      cases (c == Value.type "enumerate")
      · wp_walk using q1
        exact ⟨_, rfl, h⟩
      · wp_walk using q1
        exact ⟨_, rfl, h⟩
    · wp_walk using q1
      exact ⟨_, rfl, h⟩
theorem call_enum_it {prog : Program} {w : World} {A : Around} {E : Value → Shared → Prop} {s : Shared} {v : Addr} {H : Heap → Prop} {Q : Value → Shared → Prop} (B : ∀ (prog : Program) (w : World) (A : Around) (E : Value → Shared → Prop) (s : Shared) (Q : Value → Shared → Prop), H s.heap → Q (.ref v) s → wpAny (model prog w) A (pyIter (.ref v)) Q E s)
    (h1 : H s.heap) (h : Q (.ref s.heap.objs.size) { s with heap := s.heap.push { cls := .type "enumerate", data := .fields #[.none, .bool false, .ref v, rawInt 0, .none, .none] } }) :
    wpAny (model prog w) A (call (.type "enumerate") [.ref v]) Q E s := by
  refine callType_new F.called_enumerate (by decide) (F.typeCall_enumerate_1 _) (F.newCall_enumerate_1 _) (fun obj => F.args_object_init_2 obj _) F.entry_enumerate_new
    (meets_enum_it B) ⟨h1, ?_⟩
  show _ ∧ _
  exact ⟨⟨_, Heap.get?_push_size _ rfl, rfl⟩, h⟩
end Sh
set_option Elab.async false
set_option linter.all false
set_option maxRecDepth 100000
set_option maxHeartbeats 1000000
namespace Sh
open PySem PySem.Spec PyProof.Rows L2

def ItvE (K : PySem.W.Frag) (a : Addr) (n : Nat) : It :=
  ⟨fun i H => i < n ∧ ∃ (xs : List V), SqL K H a xs ∧ xs.length = n, fun i H v H' => ∃ T x, v = .ref T ∧ H T = none ∧ H' = upd H T (.tup [.int (i : Nat), x]) ∧ ∀ xs, SqL K H a xs → xs[n - 1 - i]? = some x, fun i H => i = n ∧ ∃ xs : List V, SqL K H a xs ∧ xs.length = n⟩
theorem turn_revE {P : Program} {w : World} {K : PySem.W.Frag} {elts : List Expr} {kk : Nat} {tpos : Pos} (a e it : Addr) (n : Nat) :
    Turn P w K (.Tuple elts kk tpos) (ItvE K a n) [e, it] e (fun i h => i ≤ n ∧ (∃ old, IsEnum h e it ((i : Nat) : Int) old) ∧ Heap.IsRevIter h it a ((n : Int) - 1 - (i : Nat)) ∧ e ≠ it) where
  mem := by simp
  obj := fun i h st b hb => by
    obtain ⟨_, ⟨old, he⟩, ⟨o, ho, hc, hd⟩, _⟩ := st
    have e' : b = e ∨ b = it := by simpa using hb
    rcases e' with z | z
    · rw [z]; exact ⟨_, he, fun v q => nomatch q⟩
    · rw [z]; exact ⟨o, ho, fun v q => by rw [hd] at q; cases q⟩
  keep := fun i h h' st k => let ⟨h1, ⟨old, he⟩, hi, hne⟩ := st; ⟨h1, ⟨old, k e (by simp) _ he⟩, hi.at fun o q => k it (by simp) o q, hne⟩
  item := by
    intro X hP hw hK hc i pins s σ H E I hf st hg
    subst hP hw hK
    obtain ⟨hin, ⟨old, he⟩, hit, hne⟩ := st
    obtain ⟨hlt, xs, hq, hn⟩ := hg
    obtain ⟨its, rv, p, hz⟩ := I.list hq
    have hl := rv.length
    have hsz : its.toArray.size = n := by rw [List.size_toArray]; omega
    obtain ⟨ol, hol, hcl, _⟩ := id p.isList
    have hai : a ≠ it := fun z => by
      obtain ⟨o, ho, hc, _⟩ := id hit
      rw [← z, hol] at ho; cases ho; rw [hcl] at hc; exact absurd (Value.type.inj hc) (by decide)
    have hea : e ≠ a := fun z => by
      have he' := he
      unfold IsEnum at he'
      rw [z, hol] at he'; rw [Option.some.inj he'] at hcl; exact absurd (Value.type.inj hcl) (by decide)
    have D := draws_rev (prog := X.prog) (w := X.w) (A := X.A.in1) (I.ok.hd hc) it a hai its.toArray 
    have hel : e < s.heap.objs.size := Heap.lt_size he
    have hil : it < s.heap.objs.size := by obtain ⟨_, q, _⟩ := hit; exact Heap.lt_size q
    rw [← hsz] at hit
    refine wpAny_pyNext_enum_itemD D he ⟨by omega, hit, p.isList⟩ (by omega) hne (by simp [hne, hea]) fun u h' tk hu ho hit' hT hsz' hk => ?_
    refine ⟨_, rfl, wpAny_letOwnedTupleGo_enum (s := { s with heap := h', toks := tk + 1 }) ho fun h'' he' sb => ?_⟩
    have hT2 : h''.get? s.heap.objs.size = some { cls := .type "tuple", data := .seq #[.int i tk, u] } := (sb.2 _ (Nat.ne_of_gt hel)).trans hT
    have hix : n - 1 - i < xs.length := by omega
    have hx : xs[n - 1 - i]? = some xs[n - 1 - i] := List.getElem?_eq_getElem hix
    obtain ⟨u', hu', ru⟩ := rv.get hx
    have eu : u' = u := by
      rw [hsz] at hu
      have hu2 : its[n - 1 - i]? = some u := by simpa using hu
      rw [hu'] at hu2; exact Option.some.inj hu2
    subst eu
    have new : ObjOk X.prog X.w (upd H s.heap.objs.size (.tup [.int (i : Nat), xs[n - 1 - i]])) h'' s.heap.objs.size (.tup [.int (i : Nat), xs[n - 1 - i]]) :=
      ⟨by show 2 ≤ sizeLine; decide, [.int i tk, u'], .cons ⟨_, rfl⟩ (.cons ru .nil), ⟨_, hT2, rfl, _, rfl⟩⟩
    have I1 : L2.Inv X pins σ (upd H s.heap.objs.size (.tup [.int (i : Nat), xs[n - 1 - i]])) { s with heap := h'', toks := tk + 1 } :=
      I.turnedNew (ch := [e, it]) (fun b ob hb q => (sb.2 b (fun z => hb (by simp [z]))).trans (hk b ob (fun z => hb (by simp [z])) (fun z => hb (by simp [z])) q)) hf (Nat.le_refl _) new
    refine ⟨.ref s.heap.objs.size, _, I1, rfl, ⟨_, _, rfl, I.hok.fresh (Nat.le_refl _), rfl, fun ys hy => by rw [I.list_inj hy hq]; exact hx⟩, ⟨by omega, ⟨u', ?_⟩, ?_, hne⟩, fun b hb => ?_⟩
    · have e1 : ((i + 1 : Nat) : Int) = (i : Int) + 1 := by omega
      rw [e1]; exact he'
    · have h3 := hit'.2.1
      rw [hsz] at h3
      exact h3.at fun o q => (sb.2 it (Ne.symm hne)).trans q
    · have hb' : b < s.heap.objs.size := by
        have e' : b = e ∨ b = it := by simpa using hb
        rcases e' with z | z
        · rw [z]; exact hel
        · rw [z]; exact hil
      rw [upd_ne (Nat.ne_of_lt hb')]
      exact (hf b hb).1
  done := by
    intro X hP hw hK hc i pins s σ H E I hf st hg
    subst hP hw hK
    obtain ⟨hin, ⟨old, he⟩, hit, hne⟩ := st
    obtain ⟨rfl, xs, hq, hn⟩ := hg
    obtain ⟨its, rv, p, hz⟩ := I.list hq
    have hl := rv.length
    have hsz : its.toArray.size = i := by rw [List.size_toArray]; omega
    obtain ⟨ol, hol, hcl, _⟩ := id p.isList
    have hai : a ≠ it := fun z => by
      obtain ⟨o, ho, hc, _⟩ := id hit
      rw [← z, hol] at ho; cases ho; rw [hcl] at hc; exact absurd (Value.type.inj hc) (by decide)
    have D := draws_rev (prog := X.prog) (w := X.w) (A := X.A.in1) (I.ok.hd hc) it a hai its.toArray 
    obtain ⟨f0, f1, f2, f3, f4, f5⟩ := hf it (by simp)
    have hst : (fun j (h : Heap) => j ≤ its.toArray.size ∧ Heap.IsRevIter h it a ((its.toArray.size : Int) - 1 - (j : Int)) ∧ Heap.IsList h a its.toArray) its.toArray.size s.heap := by
      refine ⟨Nat.le_refl _, ?_, p.isList⟩
      rw [hsz]
      exact hit
    exact wpAny_pyNext_enum_endD D he hst fun h' eb => ⟨rfl, I.turned (t' := s.toks) (fun b o hb q => eb b o hb q) f0 f1 f3 f4 f5⟩
  self := fun A i s Q E st h => let ⟨_, ⟨_, he⟩, _⟩ := st; wpAny_pyIter_enum he h
theorem walk_revE {K : PySem.W.Frag} {a : Addr} {xs : List V} : Walk (ItvE K a xs.length) xs.length (fun H => SqL K H a xs) (fun i H v H' => ∃ T x, v = .ref T ∧ H T = none ∧ H' = upd H T (.tup [.int (i : Nat), x]) ∧ xs[xs.length - 1 - i]? = some x) :=
  ⟨fun i _ hi q => ⟨hi, xs, q, rfl⟩, fun _ q => ⟨rfl, xs, q, rfl⟩, fun _ _ _ _ _ q y => let ⟨T, x, h1, h2, h3, h4⟩ := y; ⟨T, x, h1, h2, h3, h4 xs q⟩⟩

def ItvTE (K : PySem.W.Frag) (a : Addr) (n : Nat) : It :=
  ⟨fun i H => i < n ∧ ∃ (xs : List V), SqT K H a xs ∧ xs.length = n, fun i H v H' => ∃ T x, v = .ref T ∧ H T = none ∧ H' = upd H T (.tup [.int (i : Nat), x]) ∧ ∀ xs, SqT K H a xs → xs[n - 1 - i]? = some x, fun i H => i = n ∧ ∃ xs : List V, SqT K H a xs ∧ xs.length = n⟩
theorem turn_rtE {P : Program} {w : World} {K : PySem.W.Frag} {elts : List Expr} {kk : Nat} {tpos : Pos} (a e it : Addr) (n : Nat) :
    Turn P w K (.Tuple elts kk tpos) (ItvTE K a n) [e, it] e (fun i h => i ≤ n ∧ (∃ old, IsEnum h e it ((i : Nat) : Int) old) ∧ RT.IsRt h it a ((n : Int) - 1 - (i : Nat)) ∧ e ≠ it) where
  mem := by simp
  obj := fun i h st b hb => by
    obtain ⟨_, ⟨old, he⟩, ⟨o, ho, hc, hd⟩, _⟩ := st
    have e' : b = e ∨ b = it := by simpa using hb
    rcases e' with z | z
    · rw [z]; exact ⟨_, he, fun v q => nomatch q⟩
    · rw [z]; exact ⟨o, ho, fun v q => by rw [hd] at q; cases q⟩
  keep := fun i h h' st k => let ⟨h1, ⟨old, he⟩, hi, hne⟩ := st; ⟨h1, ⟨old, k e (by simp) _ he⟩, hi.at fun o q => k it (by simp) o q, hne⟩
  item := by
    intro X hP hw hK hc i pins s σ H E I hf st hg
    subst hP hw hK
    obtain ⟨hin, ⟨old, he⟩, hit, hne⟩ := st
    obtain ⟨hlt, xs, hq, hn⟩ := hg
    obtain ⟨its, rv, p, hz⟩ := I.tuple hq
    have hl := rv.length
    have hsz : its.toArray.size = n := by rw [List.size_toArray]; omega
    obtain ⟨ol, hol, hcl, _⟩ := id p
    have hai : a ≠ it := fun z => by
      obtain ⟨o, ho, hc, _⟩ := id hit
      rw [← z, hol] at ho; cases ho; rw [hcl] at hc; exact absurd (Value.type.inj hc) (by decide)
    have hea : e ≠ a := fun z => by
      have he' := he
      unfold IsEnum at he'
      rw [z, hol] at he'; rw [Option.some.inj he'] at hcl; exact absurd (Value.type.inj hcl) (by decide)
    have D := draws_rt (prog := X.prog) (w := X.w) (A := X.A.in1) (I.ok.hd hc) it a hai its.toArray (by rw [List.size_toArray, ← rv.length]; exact hz)
    have hel : e < s.heap.objs.size := Heap.lt_size he
    have hil : it < s.heap.objs.size := by obtain ⟨_, q, _⟩ := hit; exact Heap.lt_size q
    rw [← hsz] at hit
    refine wpAny_pyNext_enum_itemD D he ⟨by omega, hit, p⟩ (by omega) hne (by simp [hne, hea]) fun u h' tk hu ho hit' hT hsz' hk => ?_
    refine ⟨_, rfl, wpAny_letOwnedTupleGo_enum (s := { s with heap := h', toks := tk + 1 }) ho fun h'' he' sb => ?_⟩
    have hT2 : h''.get? s.heap.objs.size = some { cls := .type "tuple", data := .seq #[.int i tk, u] } := (sb.2 _ (Nat.ne_of_gt hel)).trans hT
    have hix : n - 1 - i < xs.length := by omega
    have hx : xs[n - 1 - i]? = some xs[n - 1 - i] := List.getElem?_eq_getElem hix
    obtain ⟨u', hu', ru⟩ := rv.get hx
    have eu : u' = u := by
      rw [hsz] at hu
      have hu2 : its[n - 1 - i]? = some u := by simpa using hu
      rw [hu'] at hu2; exact Option.some.inj hu2
    subst eu
    have new : ObjOk X.prog X.w (upd H s.heap.objs.size (.tup [.int (i : Nat), xs[n - 1 - i]])) h'' s.heap.objs.size (.tup [.int (i : Nat), xs[n - 1 - i]]) :=
      ⟨by show 2 ≤ sizeLine; decide, [.int i tk, u'], .cons ⟨_, rfl⟩ (.cons ru .nil), ⟨_, hT2, rfl, _, rfl⟩⟩
    have I1 : L2.Inv X pins σ (upd H s.heap.objs.size (.tup [.int (i : Nat), xs[n - 1 - i]])) { s with heap := h'', toks := tk + 1 } :=
      I.turnedNew (ch := [e, it]) (fun b ob hb q => (sb.2 b (fun z => hb (by simp [z]))).trans (hk b ob (fun z => hb (by simp [z])) (fun z => hb (by simp [z])) q)) hf (Nat.le_refl _) new
    refine ⟨.ref s.heap.objs.size, _, I1, rfl, ⟨_, _, rfl, I.hok.fresh (Nat.le_refl _), rfl, fun ys hy => by rw [I.tuple_inj hy hq]; exact hx⟩, ⟨by omega, ⟨u', ?_⟩, ?_, hne⟩, fun b hb => ?_⟩
    · have e1 : ((i + 1 : Nat) : Int) = (i : Int) + 1 := by omega
      rw [e1]; exact he'
    · have h3 := hit'.2.1
      rw [hsz] at h3
      exact h3.at fun o q => (sb.2 it (Ne.symm hne)).trans q
    · have hb' : b < s.heap.objs.size := by
        have e' : b = e ∨ b = it := by simpa using hb
        rcases e' with z | z
        · rw [z]; exact hel
        · rw [z]; exact hil
      rw [upd_ne (Nat.ne_of_lt hb')]
      exact (hf b hb).1
  done := by
    intro X hP hw hK hc i pins s σ H E I hf st hg
    subst hP hw hK
    obtain ⟨hin, ⟨old, he⟩, hit, hne⟩ := st
    obtain ⟨rfl, xs, hq, hn⟩ := hg
    obtain ⟨its, rv, p, hz⟩ := I.tuple hq
    have hl := rv.length
    have hsz : its.toArray.size = i := by rw [List.size_toArray]; omega
    obtain ⟨ol, hol, hcl, _⟩ := id p
    have hai : a ≠ it := fun z => by
      obtain ⟨o, ho, hc, _⟩ := id hit
      rw [← z, hol] at ho; cases ho; rw [hcl] at hc; exact absurd (Value.type.inj hc) (by decide)
    have D := draws_rt (prog := X.prog) (w := X.w) (A := X.A.in1) (I.ok.hd hc) it a hai its.toArray (by rw [List.size_toArray, ← rv.length]; exact hz)
    obtain ⟨f0, f1, f2, f3, f4, f5⟩ := hf it (by simp)
    have hst : (fun j (h : Heap) => j ≤ its.toArray.size ∧ RT.IsRt h it a ((its.toArray.size : Int) - 1 - (j : Int)) ∧ IsTup h a its.toArray) its.toArray.size s.heap := by
      refine ⟨Nat.le_refl _, ?_, p⟩
      rw [hsz]
      exact hit
    exact wpAny_pyNext_enum_endD D he hst fun h' eb => ⟨rfl, I.turned (t' := s.toks) (fun b o hb q => eb b o hb q) f0 f1 f3 f4 f5⟩
  self := fun A i s Q E st h => let ⟨_, ⟨_, he⟩, _⟩ := st; wpAny_pyIter_enum he h
theorem walk_rtE {K : PySem.W.Frag} {a : Addr} {xs : List V} : Walk (ItvTE K a xs.length) xs.length (fun H => SqT K H a xs) (fun i H v H' => ∃ T x, v = .ref T ∧ H T = none ∧ H' = upd H T (.tup [.int (i : Nat), x]) ∧ xs[xs.length - 1 - i]? = some x) :=
  ⟨fun i _ hi q => ⟨hi, xs, q, rfl⟩, fun _ q => ⟨rfl, xs, q, rfl⟩, fun _ _ _ _ _ q y => let ⟨T, x, h1, h2, h3, h4⟩ := y; ⟨T, x, h1, h2, h3, h4 xs q⟩⟩

/-- enumerate(reversed(x)), x a list or a tuple -/
def iRevE (K : PySem.W.Frag) (te : TE) : TI := fun σ H R => te σ H fun v H1 => ∃ (a : Addr) (xs : List V), v = .ref a ∧ ((SqL K H1 a xs ∧ R (ItvE K a xs.length) H1) ∨ (SqT K H1 a xs ∧ R (ItvTE K a xs.length) H1))
theorem pi_revE {X : Cx} {e : Expr} {te : TE} {p pos p2 pos2 tpos : Pos} {elts : List Expr} {kk : Nat} (hg : Gl X "reversed") (hm : X.mg "reversed" = none) (hg2 : Gl X "enumerate") (hm2 : X.mg "enumerate" = none) (he : PE X e te) (hs : starEach [e] X.env = (false, eval e X.env) :: starEach [] X.env := by rfl)
    (hs2 : starEach [.Call (.Name "reversed" p) [e] [] pos] X.env = (false, eval (.Call (.Name "reversed" p) [e] [] pos) X.env) :: starEach [] X.env := by rfl) :
    PI X (.Tuple elts kk tpos) (.Call (.Name "enumerate" p2) [.Call (.Name "reversed" p) [e] [] pos] [] pos2) (iRevE X.K te) := by
  refine ⟨fun pins s σ H R I h => ?_⟩
  refine Call_ (ld_blt I hg2 hm2 boot_enumerate (PyProof.Rows.callWith_type1 (args_cons (Call_ (ld_blt I hg hm PyProof.Rows.boot_reversed (PyProof.Rows.callWith_type1 (args_cons (thn (he.run pins s σ H _ I h) fun u s1 ⟨v, H1, I1, r1, q1⟩ => args_nil ?_) hs) hs rfl))) hs2) hs2 rfl))
  obtain ⟨a, xs, ev, q⟩ := q1
  subst ev
  obtain rfl : u = Value.ref a := r1
  have two : ∀ b ∈ [s1.heap.objs.size + 1, s1.heap.objs.size], s1.heap.objs.size ≤ b := fun b hb => by
    have e' : b = s1.heap.objs.size + 1 ∨ b = s1.heap.objs.size := by simpa using hb
    rcases e' with z | z
    · rw [z]; exact Nat.le_add_right _ _
    · rw [z]; exact Nat.le_refl _
  rcases q with ⟨hq, q⟩ | ⟨hq, q⟩
  · obtain ⟨its, rv, p', hz⟩ := I1.list hq
    have hl := rv.length
    refine call_reversed_list p'.isList (args_nil ?_)
    have hit : (s1.heap.push (revObj a (((its.toArray.size : Nat) : Int) - 1))).IsRevIter s1.heap.objs.size a (((its.toArray.size : Nat) : Int) - 1) := ⟨_, Heap.get?_push_size _ rfl, rfl, rfl⟩
    refine call_enum_it (H := fun h => h.IsRevIter s1.heap.objs.size a (((its.toArray.size : Nat) : Int) - 1)) (fun prog w A E s Q h1 h2 => wpAny_pyIter_revIter h1 h2) hit ?_
    have e2 : ((s1.heap.push (revObj a (((its.toArray.size : Nat) : Int) - 1))).objs.size : Nat) = s1.heap.objs.size + 1 := Heap.size_push ..
    have hE := Heap.get?_push_size (s1.heap.push (revObj a (((its.toArray.size : Nat) : Int) - 1))) (o := { cls := .type "enumerate", data := .fields #[.none, .bool false, .ref s1.heap.objs.size, rawInt 0, .none, .none] }) rfl
    refine wpAny_pyIter_enum (e := (s1.heap.push (revObj a (((its.toArray.size : Nat) : Int) - 1))).objs.size) (it := s1.heap.objs.size) (i := 0) (old := .none) hE ?_
    rw [e2] at hE ⊢
    refine ⟨s1.heap.objs.size + 1, [s1.heap.objs.size + 1, s1.heap.objs.size], _, _, H1, rfl, I1.kept (t' := s1.toks) fun b o e => Heap.get?_push_of_some _ (Heap.get?_push_of_some _ e), turn_revE a (s1.heap.objs.size + 1) s1.heap.objs.size xs.length, ⟨Nat.zero_le _, ⟨.none, hE⟩, ?_, Nat.succ_ne_self _⟩, fun b hb => ?_, q⟩
    · have e1 : ((its.toArray.size : Nat) : Int) - 1 = (xs.length : Int) - 1 - ((0 : Nat) : Int) := by simp only [List.size_toArray]; omega
      rw [← e1]
      exact hit.at fun o q => Heap.get?_push_of_some _ q
    · have hle := two b hb
      exact I1.fpOk hle (I1.hok.fresh hle)
  · obtain ⟨its, rv, p', hz⟩ := I1.tuple hq
    have hl := rv.length
    have hn := line63
    refine RT.call_reversed_tup p' (fun A E Q k => len_tuple p' (by simp only [List.size_toArray] <;> omega) k) (args_nil ?_)
    have hit : RT.IsRt (s1.heap.push (RT.rtObj a (((its.toArray.size : Nat) : Int) - 1))) s1.heap.objs.size a (((its.toArray.size : Nat) : Int) - 1) := ⟨_, Heap.get?_push_size _ rfl, rfl, rfl⟩
    refine call_enum_it (H := fun h => RT.IsRt h s1.heap.objs.size a (((its.toArray.size : Nat) : Int) - 1)) (fun prog w A E s Q h1 h2 => RT.iter_rt h1 h2) hit ?_
    have e2 : ((s1.heap.push (RT.rtObj a (((its.toArray.size : Nat) : Int) - 1))).objs.size : Nat) = s1.heap.objs.size + 1 := Heap.size_push ..
    have hE := Heap.get?_push_size (s1.heap.push (RT.rtObj a (((its.toArray.size : Nat) : Int) - 1))) (o := { cls := .type "enumerate", data := .fields #[.none, .bool false, .ref s1.heap.objs.size, rawInt 0, .none, .none] }) rfl
    refine wpAny_pyIter_enum (e := (s1.heap.push (RT.rtObj a (((its.toArray.size : Nat) : Int) - 1))).objs.size) (it := s1.heap.objs.size) (i := 0) (old := .none) hE ?_
    rw [e2] at hE ⊢
    refine ⟨s1.heap.objs.size + 1, [s1.heap.objs.size + 1, s1.heap.objs.size], _, _, H1, rfl, I1.kept (t' := s1.toks + 1 + 1) fun b o e => Heap.get?_push_of_some _ (Heap.get?_push_of_some _ e), turn_rtE a (s1.heap.objs.size + 1) s1.heap.objs.size xs.length, ⟨Nat.zero_le _, ⟨.none, hE⟩, ?_, Nat.succ_ne_self _⟩, fun b hb => ?_, q⟩
    · have e1 : ((its.toArray.size : Nat) : Int) - 1 = (xs.length : Int) - 1 - ((0 : Nat) : Int) := by simp only [List.size_toArray]; omega
      rw [← e1]
      exact hit.at fun o q => Heap.get?_push_of_some _ q
    · have hle := two b hb
      exact I1.fpOk hle (I1.hok.fresh hle)
end Sh
set_option Elab.async false
set_option linter.all false
set_option maxRecDepth 100000
set_option maxHeartbeats 1000000
namespace Sh
open PySem PySem.Spec PyProof.Rows L2
section
variable {X : Cx} {c : Cc} {e a b ei tg : Expr} {pos p : Pos}
/-! ### and, or as values; chains -/
def xAndV (f g : EX) : EX := fun S h => andThen (f S h) fun r h1 => match truR r h1 with
  | some true => g S h1
  | some false => some (.ok r h1)
  | none => none
def xOrV (f g : EX) : EX := fun S h => andThen (f S h) fun r h1 => match truR r h1 with
  | some false => g S h1
  | some true => some (.ok r h1)
  | none => none
theorem ce_and {rest : List Expr} {f g : EX} (ha : CE X c a f) (hb : CE X c (.BoolOp .And (b :: rest) pos) g) : CE X c (.BoolOp .And (a :: b :: rest) pos) (xAndV f g) := by
  refine pe_weak (pe_andT ha hb) fun σ H Q q => ?_
  obtain ⟨G, ρ, S, h, s, e⟩ := q
  refine ⟨G, ρ, S, h, s, e.bind (rel := RV (c.p X.K)) fun r h1 ρ1 H1 v n1 rv e1 => ?_⟩
  cases ht : truR r h1 with
  | none => rw [ht] at e1; exact e1.elim
  | some k =>
    rw [ht] at e1
    refine ⟨k, tru_of n1.hr rv ht, ?_⟩
    cases k with
    | true => exact iteT ⟨G, ρ1, S, h1, s.nx n1, e1.back s.hr n1⟩
    | false => exact iteF (e1 ρ1 H1 v n1 rv)
theorem ce_or {rest : List Expr} {f g : EX} (ha : CE X c a f) (hb : CE X c (.BoolOp .Or (b :: rest) pos) g) : CE X c (.BoolOp .Or (a :: b :: rest) pos) (xOrV f g) := by
  refine pe_weak (pe_orT ha hb) fun σ H Q q => ?_
  obtain ⟨G, ρ, S, h, s, e⟩ := q
  refine ⟨G, ρ, S, h, s, e.bind (rel := RV (c.p X.K)) fun r h1 ρ1 H1 v n1 rv e1 => ?_⟩
  cases ht : truR r h1 with
  | none => rw [ht] at e1; exact e1.elim
  | some k =>
    rw [ht] at e1
    refine ⟨k, tru_of n1.hr rv ht, ?_⟩
    cases k with
    | true => exact iteT (e1 ρ1 H1 v n1 rv)
    | false => exact iteF ⟨G, ρ1, S, h1, s.nx n1, e1.back s.hr n1⟩
theorem ce_and1 {f : EX} (ha : CE X c a f) : CE X c (.BoolOp .And [a] pos) f := pe_one ha
theorem ce_or1 {f : EX} (ha : CE X c a f) : CE X c (.BoolOp .Or [a] pos) f := pe_one ha
def xChain (g g' : P2f) (fa fb fc : EX) : EX := fun S h => andThen (fa S h) fun a h1 => andThen (fb S h1) fun b h2 => match g a b h2 with
  | some (.d (.bl true)) => andThen (fc S h2) fun d h3 => lift (g' b d h3) h3
  | some (.d (.bl false)) => some (.ok (.d (.bl false)) h2)
  | _ => none
theorem tChain_of {r r' : R2} {g g' : P2f} {fa fb fc : EX} (hp : P2 X c r g) (hp' : P2 X c r' g') (σ : L2.St) (H : Hp) (Q : VK) (q : tE X.K c (xChain g g' fa fb fc) σ H Q) : tChain r r' (tE X.K c fa) (tE X.K c fb) (tE X.K c fc) σ H Q := by
  obtain ⟨G, ρ, S, h, s, e⟩ := q
  refine ⟨G, ρ, S, h, s, e.bind (rel := RV (c.p X.K)) fun a h1 ρ1 H1 x n1 rx e1 => ?_⟩
  refine ⟨G, ρ1, S, h1, s.nx n1, (e1.back s.hr n1).bind (rel := RV (c.p X.K)) fun b h2 ρ2 H2 y n2 ry e2 => ?_⟩
  have rx2 := rx.nx n2 n1.hr
  have go : ∀ (k : Bool), g a b h2 = some (.d (.bl k)) → (∀ H3, Nx (c.p X.K) ρ2 H2 ρ2 h2 H3 → (if k = true then tE X.K c fc σ H3 (fun w' H4 => r' y w' H4 Q) else Q (.bl false) H3)) → r x y H2 fun z H3 => ∃ k, z = .bl k ∧ (if k = true then tE X.K c fc σ H3 (fun w' H4 => r' y w' H4 Q) else Q (.bl false) H3) := fun k hk hq => by
    refine hp ρ2 h2 H2 _ _ x y a b _ n2.hr n2.tb rx2 ry ?_
    rw [hk]
    intro H3 v n3 rv
    cases rv
    exact ⟨k, rfl, hq H3 n3⟩
  have s2 := s.nx (n1.trans n2)
  cases hg : g a b h2 with
  | none => rw [hg] at e2; exact e2.elim
  | some z =>
    rw [hg] at e2
    cases z with
    | d z =>
      cases z with
      | bl k =>
        refine go k hg fun H3 n3 => ?_
        cases k with
        | true =>
          refine iteT ⟨G, ρ2, S, h2, s2.nx n3, ?_⟩
          have n123 := n2.trans n3
          refine (e2.back n1.hr n123).bind (rel := RV (c.p X.K)) fun d h4 ρ4 H4 w n4 rw4 e4 => ?_
          exact hp' ρ4 h4 H4 _ _ y w b d Q n4.hr n4.tb ((ry.nx n3 n2.hr).nx n4 n3.hr) rw4 (e4.later n4 fun _ _ _ _ z => z.back n4 n3.hr).fin
        | false => exact iteF (e2 ρ2 H3 (.bl false) (n2.trans n3) (.bl false))
      | _ => exact e2.elim
    | _ => exact e2.elim
theorem ce_chain {op op' : CmpOp} {r r' : R2} {g g' : P2f} {d : Expr} {fa fb fc : EX} (ho : OpR X (compareOp op) r) (ho' : OpR X (compareOp op') r') (hp : P2 X c r g) (hp' : P2 X c r' g') (ha : CE X c a fa) (hb : CE X c b fb) (hc : CE X c d fc)
    (hm : lastMarks [op, op'] [b, d] = false := by with_unfolding_all rfl) : CE X c (.Compare a [op, op'] [b, d] pos) (xChain g g' fa fb fc) :=
  pe_weak (pe_chain ho ho' ha hb hc hm) (tChain_of hp hp')
theorem ct_chain {op op' : CmpOp} {r r' : R2} {g g' : P2f} {d : Expr} {fa fb fc : EX} (ho : OpR X (compareOp op) r) (ho' : OpR X (compareOp op') r') (hp : P2 X c r g) (hp' : P2 X c r' g') (ha : CE X c a fa) (hb : CE X c b fb) (hc : CE X c d fc)
    (hm : lastMarks [op, op'] [b, d] = false := by with_unfolding_all rfl) : CT X c (.Compare a [op, op'] [b, d] pos) (xTest (xChain g g' fa fb fc)) := by
  refine pt_weak (pt_chain ho ho' ha hb hc hm) fun σ H Q q => ?_
  obtain ⟨G, ρ, S, h, s, e⟩ := q
  refine tChain_of hp hp' σ H _ ⟨G, ρ, S, h, s, ?_⟩
  refine e.bind (rel := RV (c.p X.K)) fun r h1 ρ1 H1 x n1 rx e1 => ?_
  cases r with
  | d x =>
    cases x with
    | bl b => cases rx; exact ⟨b, rfl, e1 ρ1 H1 b n1 rfl⟩
    | _ => exact e1.elim
  | _ => exact e1.elim
/-! ### several names at once -/
def sPar2 (i j : Nat) (f : AX) : SX := fun S h => thenS S (f S h) fun rs h1 => match rs with
  | [.d a, .d b] => some (.nx ((S.set i (.d a)).set j (.d b)) h1)
  | _ => none
theorem cs_par2 {i j : Nat} {x y : Str} {fa : AX} {px py pt : Pos} {kt k2 pt2} (hc : X.calm = true) (hN : X.N.Nodup) (hi : X.N[i]? = some x) (hj : X.N[j]? = some y) (hij : i ≠ j)
    (hx : X.env.scope.names.lookup x = some .local) (hy : X.env.scope.names.lookup y = some .local) (ha : CA X c [a, b] fa)
    (hw : swappedStores [.Tuple [.Name x px, .Name y py] kt pt] (.Tuple [a, b] k2 pt2) X.env = pure (some [x, y]))
    (hs : swapsWithSole [.Tuple [.Name x px, .Name y py] kt pt] (.Tuple [a, b] k2 pt2) pos.line X.env = pure false := by rfl) :
    CS X c (.Assign [.Tuple [.Name x px, .Name y py] kt pt] (.Tuple [a, b] k2 pt2) pos) (sPar2 i j fa) := by
  refine ps_weak (ps_par hc hN hi hj hij hx hy ha hw hs) fun D σ H q => ?_
  obtain ⟨G, ρ, S, h, s, e⟩ := q
  refine ⟨G, ρ, S, h, s, Sd.ex s (.refl s.hr s.tb) e (rel := RVs (c.p X.K)) fun rs h1 ρ1 H1 vs n1 rv e1 => ?_⟩
  have key : ∃ a b, rs = [.d a, .d b] := by
    match rs, e1 with
    | [.d a, .d b], _ => exact ⟨a, b, rfl⟩
  obtain ⟨a, b, rfl⟩ := key
  cases rv with
  | cons q1 t =>
    cases t with
    | cons q2 t =>
      cases t
      have s1 := s.nx n1
      have s2 := s1.put (.refl s1.hr s1.tb) (r := .d a) (i := i) q1 rfl
      have s3 := s2.put (.refl s2.hr s2.tb) (r := .d b) (i := j) q2 rfl
      exact ⟨_, _, rfl, e1 G ρ1 _ H1 (fun _ m => m) (n1.lt s.hr) s3⟩
def sPar3 (i j l : Nat) (f : AX) : SX := fun S h => thenS S (f S h) fun rs h1 => match rs with
  | [.d a, .d b, .d d] => some (.nx (((S.set i (.d a)).set j (.d b)).set l (.d d)) h1)
  | _ => none
theorem cs_par3 {i j l : Nat} {x y z : Str} {d : Expr} {fa : AX} {px py pz pt : Pos} {kt k2 pt2} (hc : X.calm = true) (hN : X.N.Nodup) (hi : X.N[i]? = some x) (hj : X.N[j]? = some y) (hl : X.N[l]? = some z) (hij : i ≠ j) (hil : i ≠ l) (hjl : j ≠ l)
    (hx : X.env.scope.names.lookup x = some .local) (hy : X.env.scope.names.lookup y = some .local) (hz : X.env.scope.names.lookup z = some .local) (ha : CA X c [a, b, d] fa)
    (hw : swappedStores [.Tuple [.Name x px, .Name y py, .Name z pz] kt pt] (.Tuple [a, b, d] k2 pt2) X.env = pure (some [x, y, z]))
    (hs : swapsWithSole [.Tuple [.Name x px, .Name y py, .Name z pz] kt pt] (.Tuple [a, b, d] k2 pt2) pos.line X.env = pure false := by rfl) :
    CS X c (.Assign [.Tuple [.Name x px, .Name y py, .Name z pz] kt pt] (.Tuple [a, b, d] k2 pt2) pos) (sPar3 i j l fa) := by
  refine ps_weak (ps_par3 hc hN hi hj hl hij hil hjl hx hy hz ha hw hs) fun D σ H q => ?_
  obtain ⟨G, ρ, S, h, s, e⟩ := q
  refine ⟨G, ρ, S, h, s, Sd.ex s (.refl s.hr s.tb) e (rel := RVs (c.p X.K)) fun rs h1 ρ1 H1 vs n1 rv e1 => ?_⟩
  have key : ∃ a b d, rs = [.d a, .d b, .d d] := by
    match rs, e1 with
    | [.d a, .d b, .d d], _ => exact ⟨a, b, d, rfl⟩
  obtain ⟨a, b, d, rfl⟩ := key
  cases rv with
  | cons q1 t =>
    cases t with
    | cons q2 t =>
      cases t with
      | cons q3 t =>
        cases t
        have s1 := s.nx n1
        have s2 := s1.put (.refl s1.hr s1.tb) (r := .d a) (i := i) q1 rfl
        have s3 := s2.put (.refl s2.hr s2.tb) (r := .d b) (i := j) q2 rfl
        have s4 := s3.put (.refl s3.hr s3.tb) (r := .d d) (i := l) q3 rfl
        exact ⟨_, _, _, rfl, e1 G ρ1 _ H1 (fun _ m => m) (n1.lt s.hr) s4⟩
/-- x = y = e -/
def sAsg2 (g1 g2 : TGx) (f : EX) : SX := fun S h => thenS S (f S h) fun r h1 => match r with
  | .d d => (match g1 d S with
    | some S1 => (match g2 d S1 with
      | some S2 => some (.nx S2 h1)
      | none => none)
    | none => none)
  | _ => none
theorem cs_asg2 {t1 t2 : Expr} {ts us : List Nat} {g1 g2 : TGx} {f : EX} (he : CE X c e f) (h1 : CG X c t1 ts g1) (h2 : CG X c t2 us g2) (ha : (assignEach [t1, t2] X.env).map (·.2) = [assign t1 X.env, assign t2 X.env] := by rfl) (hw : swappedStores [t1, t2] e X.env = pure none := by rfl) :
    CS X c (.Assign [t1, t2] e pos) (sAsg2 g1 g2 f) := by
  refine ps_weak (ps_asg2 he h1 h2 ha hw) fun D σ H q => ?_
  obtain ⟨G, ρ, S, h, s, e⟩ := q
  refine ⟨G, ρ, S, h, s, Sd.ex s (.refl s.hr s.tb) e (rel := RV (c.p X.K)) fun v h1 ρ1 H1 vv n1 rv e1 => ?_⟩
  cases v with
  | d d =>
    simp only at e1
    refine ⟨G, ρ1, S, h1, d, s.nx n1, rv, ?_⟩
    cases hg : g1 d S with
    | none => rw [hg] at e1; exact e1
    | some S1 =>
      rw [hg] at e1
      simp only at e1
      refine fun σ1 _ _ s1 => ⟨G, ρ1, S1, h1, d, s1, rv, ?_⟩
      cases hg2 : g2 d S1 with
      | none => rw [hg2] at e1; exact e1
      | some S2 => rw [hg2] at e1; exact fun σ2 _ _ s2 => e1 G _ _ _ (fun _ m => m) (n1.lt s.hr) s2
  | _ => exact e1.elim
/-! ### a new container becomes a shared object -/
def toO : Cn → Option O
  | .lst xs => some (.lst xs)
  | .dct kd => some (.dct kd)
  | .fz _ => none
def xShare (f : EX) : EX := fun S h => andThen (f S h) fun r h1 => match r with
  | .new k => (match toO k with
    | some o => some (.ok (.d (.ref h1.length)) (h1 ++ [o]))
    | none => none)
  | _ => none
theorem Nx.share {p : Pm} {ρ ρ1 : List Addr} {h1 : Hs} {H H1 : Hp} {a : Addr} {k : Cn} {o : O} (n : Nx p ρ H ρ1 h1 H1) (z : H a = none) (na : a ∉ ρ1) (m : CM p.K ρ1 H1 a k) (e : toO k = some o) : Nx p ρ H (ρ1 ++ [a]) (h1 ++ [o]) H1 := by
  have up : ∀ {vs : List V} {ds : List D}, DVs p.K ρ1 H1 vs ds → DVs p.K (ρ1 ++ [a]) H1 vs ds := fun q => q.mono (fun _ _ z => z) fun j b z => pre_get (List.prefix_append _ _) z
  have om : ∀ {b : Addr} {x : O}, OM p ρ1 H1 b x → OM p (ρ1 ++ [a]) H1 b x := fun {b x} q => by
    cases x with
    | lst ds => obtain ⟨vs, e, r⟩ := q; exact ⟨vs, e, up r⟩
    | dct kd => obtain ⟨vs, e, r1, r2⟩ := q; exact ⟨vs, e, r1, up r2⟩
    | ins c fs => obtain ⟨dx, gs, e, r1, r2⟩ := q; exact ⟨dx, gs, e, r1, up r2⟩
  refine ⟨n.pre.trans (List.prefix_append _ _), ⟨by rw [List.length_append, List.length_append, n.hr.len]; rfl, ?_, fun j b x hj hx => ?_⟩, n.fr, fun b hb => ?_, n.tk, n.tb⟩
  · rw [List.nodup_append]
    exact ⟨n.hr.nd, by simp, fun x hx y hy => by rw [List.mem_singleton.mp hy]; exact fun z => na (z ▸ hx)⟩
  · by_cases hlt : j < ρ1.length
    · rw [List.getElem?_append_left hlt] at hj
      rw [List.getElem?_append_left (by rw [← n.hr.len]; exact hlt)] at hx
      exact om (n.hr.ob j b x hj hx)
    · have hj' := (List.getElem?_eq_some_iff.mp hj).1
      rw [List.length_append, List.length_singleton] at hj'
      have ej : j = ρ1.length := by omega
      subst ej
      rw [List.getElem?_append_right (Nat.le_refl _), Nat.sub_self] at hj
      rw [List.getElem?_append_right (by rw [n.hr.len]; exact Nat.le_refl _), n.hr.len, Nat.sub_self] at hx
      simp only [List.getElem?_cons_zero, Option.some.injEq] at hj hx
      subst hj hx
      cases k with
      | lst ds => cases e; obtain ⟨vs, e, r⟩ := m; exact ⟨vs, e, up r⟩
      | dct kd => cases e; obtain ⟨vs, e, r1, r2⟩ := m; exact ⟨vs, e, r1, up r2⟩
      | fz ds => cases e
  · rcases List.mem_append.mp hb with hb | hb
    · exact n.nw b hb
    · rw [List.mem_singleton.mp hb]; exact .inr z
theorem ce_share {f : EX} (he : CE X c e f) : CE X c e (xShare f) := by
  refine pe_weak he fun σ H Q q => ?_
  obtain ⟨G, ρ, S, h, s, e⟩ := q
  refine ⟨G, ρ, S, h, s, e.bind (rel := RV (c.p X.K)) fun r h1 ρ1 H1 v n1 rv e1 => ?_⟩
  cases r with
  | new k =>
    simp only at e1
    obtain ⟨a, rfl, z, na, m⟩ := rv
    cases ho : toO k with
    | none => rw [ho] at e1; exact e1.elim
    | some o =>
      rw [ho] at e1
      refine e1 (ρ1 ++ [a]) H1 _ (n1.share z na m ho) (.ref ?_)
      rw [List.getElem?_append_right (by rw [n1.hr.len]; exact Nat.le_refl _), n1.hr.len, Nat.sub_self]
      rfl
  | _ => exact e1.elim
/-! ### enumerate(reversed(x)) -/
def pairD : Nat → List D → List D
  | _, [] => []
  | i, d :: ds => .tup [.int i, d] :: pairD (i + 1) ds
theorem pairD_length : ∀ (k : Nat) (ds : List D), (pairD k ds).length = ds.length
  | _, [] => rfl
  | k, d :: ds => by simp only [pairD, List.length_cons, pairD_length (k + 1) ds]
theorem pairD_get : ∀ (k i : Nat) (ds : List D) (d : D), ds[i]? = some d → (pairD k ds)[i]? = some (.tup [.int ((k + i : Nat) : Int), d])
  | _, _, [], _, e => by simp at e
  | k, 0, d' :: ds, d, e => by
    simp at e; subst e
    rfl
  | k, i + 1, d' :: ds, d, e => by
    have ih := pairD_get (k + 1) i ds d (by simpa using e)
    simp only [pairD, List.getElem?_cons_succ]
    rw [ih]
    have : k + 1 + i = k + (i + 1) := by omega
    rw [this]
/-- a list or a tuple as a source -/
def SrcR (p : Pm) (fz : Addr → HO → Prop) (ρ : List Addr) (H : Hp) (v : V) (ds : List D) : Prop := ∃ (a : Addr) (vs : List V) (supp : List (Addr × HO)), v = .ref a ∧ DVs p.K ρ H vs ds ∧ (∀ q ∈ supp, H q.1 = some q.2 ∧ NoTbl q.2 ∧ q.1 ∉ ρ ∧ fz q.1 q.2) ∧
  ((SqL p.K H a vs ∧ ∀ H', (∀ q ∈ supp, H' q.1 = some q.2) → SqL p.K H' a vs) ∨ (SqT p.K H a vs ∧ ∀ H', (∀ q ∈ supp, H' q.1 = some q.2) → SqT p.K H' a vs))
theorem src_lst {p : Pm} {fz : Addr → HO → Prop} {ρ : List Addr} {H : Hp} {a : Addr} {vs : List V} {ds : List D} (hs : H a = some (.lst vs)) (na : a ∉ ρ) (r : DVs p.K ρ H vs ds) (hf : fz a (.lst vs)) : SrcR p fz ρ H (.ref a) ds :=
  ⟨a, vs, [(a, .lst vs)], rfl, r, fun q m => by rw [List.mem_singleton.mp m]; exact ⟨hs, (by intro ps z; cases z), na, hf⟩, .inl ⟨SqL.of hs, fun H' hq => SqL.of (hq _ (List.mem_singleton.mpr rfl))⟩⟩
theorem src_fz {p : Pm} {fz : Addr → HO → Prop} {ρ : List Addr} {H : Hp} {kn : Addr → Prop} {a : Addr} {ds : List D} (q : BR p ρ H kn a (.fz ds)) (hf : ∀ o vs, fz a (.frz o (.lst vs))) : SrcR p fz ρ H (.ref a) ds := by
  obtain ⟨vs, r, k | ⟨⟨o, k⟩, na, _⟩⟩ := q
  · exact ⟨a, vs, [], rfl, r, fun _ m => absurd m (by simp), .inl ⟨.inr k, fun _ _ => .inr k⟩⟩
  · exact ⟨a, vs, [(a, .frz o (.lst vs))], rfl, r, fun q m => by rw [List.mem_singleton.mp m]; exact ⟨k, (by intro ps z; cases z), na, hf o vs⟩, .inl ⟨.inl (.inr ⟨o, k⟩), fun H' hq => .inl (.inr ⟨o, hq _ (List.mem_singleton.mpr rfl)⟩)⟩⟩
theorem src_tup {p : Pm} {fz : Addr → HO → Prop} {ρ : List Addr} {h : Hs} {H : Hp} {a : Addr} {vs : List V} {ds : List D} (hr : HR p ρ h H) (hs : SqT p.K H a vs) (r : DVs p.K ρ H vs ds) (hf : ∀ o, ¬ MutO o → fz a o) : SrcR p fz ρ H (.ref a) ds := by
  rcases hs with (k | ⟨o, k⟩) | k
  · exact ⟨a, vs, [(a, .tup vs)], rfl, r, fun q m => by rw [List.mem_singleton.mp m]; exact ⟨k, (by intro ps z; cases z), rd_not (hr := hr) (u := .tup vs) (o := .tup vs) k (fun z => z), hf _ (fun z => z)⟩, .inr ⟨.inl (.inl k), fun H' hq => .inl (.inl (hq _ (List.mem_singleton.mpr rfl)))⟩⟩
  · exact ⟨a, vs, [(a, .frz o (.tup vs))], rfl, r, fun q m => by rw [List.mem_singleton.mp m]; exact ⟨k, (by intro ps z; cases z), rd_not (hr := hr) (u := .tup vs) (o := .frz o (.tup vs)) k (fun z => z), hf _ (fun z => z)⟩, .inr ⟨.inl (.inr ⟨o, k⟩), fun H' hq => .inl (.inr ⟨o, hq _ (List.mem_singleton.mpr rfl)⟩)⟩⟩
  · exact ⟨a, vs, [], rfl, r, fun _ m => absurd m (by simp), .inr ⟨.inr k, fun _ _ => .inr k⟩⟩
def tSrc (K : PySem.W.Frag) (c : Cc) (fz : FZ) (f : IX) : TE := fun σ H Q => ∃ G ρ S h, Stt (c.p K) c.ρ0 c.H0 G ρ S h σ H ∧
  Ed (c.p K) (fun cls d H' => c.W cls d σ H') ρ H (f S h) (fun ρ' Hb H' v ds => SrcR (c.p K) (fz G Hb) ρ' H' v ds) Q
abbrev CSrc (X : Cx) (c : Cc) (fz : FZ) (e : Expr) (f : IX) : Prop := PE X e (tSrc X.K c fz f)
/-- of an expression -/
def seqE : R → Option (List D)
  | .d (.tup xs) => some xs
  | .new (.lst xs) => some xs
  | .bor (.fz xs) => some xs
  | _ => none
theorem csrc_S {f : EX} (he : CE X c e f) : CSrc X c (fzS c) e (iE seqE f) := by
  refine pe_weak he fun σ H R q => ?_
  obtain ⟨G, ρ, S, h, s, e⟩ := q
  refine ⟨G, ρ, S, h, s, e.bind (rel := RV (c.p X.K)) fun r h1 ρ1 H1 v n1 rv e1 => ?_⟩
  cases hi : seqE r with
  | none => rw [hi] at e1; exact e1.elim
  | some ds =>
    rw [hi] at e1
    refine e1 ρ1 H1 v n1 ?_
    cases r with
    | d x =>
      cases x with
      | tup xs =>
        cases hi
        obtain ⟨a, vs, rfl, h2, r2⟩ := tup_of rv rfl
        exact src_tup n1.hr h2 r2 fun _ z => .inr (.inl z)
      | _ => cases hi
    | new kk =>
      cases kk with
      | lst xs =>
        cases hi
        obtain ⟨a, rfl, z, na, vs, h2, r2⟩ := rv
        exact src_lst h2 na r2 (.inl z)
      | _ => cases hi
    | bor kk =>
      cases kk with
      | fz xs =>
        cases hi
        obtain ⟨a, rfl, br⟩ := rv
        exact src_fz br fun _ _ => .inr (.inl fun z => z)
      | _ => cases hi
/-- of a variable that is not the def's own list -/
def seqV : Option Sl → Option (List D)
  | some (.d (.tup xs)) => some xs
  | some (.bor (.lst xs)) => some xs
  | some (.bor (.fz xs)) => some xs
  | _ => none
def iVs (i : Nat) : IX := fun S h => lift (seqV S[i]?) h
theorem csrc_V {i : Nat} {x : Str} (hN : X.N[i]? = some x := by rfl) (hv : Vis X.env.scope x := by first | exact Or.inl rfl | exact Or.inr (Or.inl rfl) | exact Or.inr (Or.inr rfl)) (hd : (x == ("__debug__" : Str)) = false := by decide)
    (hcd : (x == ("__classdict__" : Str)) = false := by decide) : CSrc X c (fzS c) (.Name x pos) (iVs i) := by
  refine pe_weak (pe_var hN hv hd hcd) fun σ H R q => ?_
  obtain ⟨G, ρ, S, h, s, e⟩ := q
  unfold iVs at e
  cases hS : S[i]? with
  | none => rw [hS] at e; exact e.elim
  | some sl =>
    rw [hS] at e
    obtain ⟨o, ho, v⟩ := s.sl i sl hS
    have n0 : Nx (c.p X.K) ρ H ρ h H := .refl s.hr s.tb
    cases sl with
    | d x =>
      obtain ⟨w, rfl, r⟩ := v
      cases x with
      | tup xs =>
        obtain ⟨a, vs, rfl, h2, r2⟩ := tup_of (p := c.p X.K) (ρ := ρ) (Hb := H) (H := H) (r := .d (.tup xs)) r rfl
        exact ⟨_, ho, e ρ H _ n0 (src_tup s.hr h2 r2 fun _ z => .inr (.inl z))⟩
      | _ => exact e.elim
    | bor k =>
      cases k with
      | lst xs =>
        obtain ⟨a, rfl, vs, r2, h2, na, kn⟩ := v
        exact ⟨_, ho, e ρ H _ n0 (src_lst h2 na r2 (.inr (.inr kn)))⟩
      | fz xs =>
        obtain ⟨a, rfl, br⟩ := v
        exact ⟨_, ho, e ρ H _ n0 (src_fz br fun _ _ => .inr (.inl fun z => z))⟩
      | dct xs => exact e.elim
    | _ => exact e.elim
def iRevEn (f : IX) : IX := fun S h => andThen (f S h) fun ds h1 => some (.ok (pairD 0 ds.reverse) h1)
theorem itR_revE {p : Pm} {fz : Addr → HO → Prop} {ρ : List Addr} {H : Hp} {a : Addr} {vs : List V} {ds : List D} {J : It} {Gd : Hp → Prop} (supp : List (Addr × HO)) (w : Walk J vs.length Gd (fun i H v H' => ∃ T x, v = .ref T ∧ H T = none ∧ H' = upd H T (.tup [.int (i : Nat), x]) ∧ vs[vs.length - 1 - i]? = some x))
    (r : DVs p.K ρ H vs ds) (hs : ∀ q ∈ supp, H q.1 = some q.2 ∧ NoTbl q.2 ∧ q.1 ∉ ρ ∧ fz q.1 q.2) (hg : ∀ H', (∀ q ∈ supp, H' q.1 = some q.2) → Gd H') : ItR p fz ρ H J (pairD 0 ds.reverse) := by
  have hl := r.length
  have el : (pairD 0 ds.reverse).length = vs.length := by rw [pairD_length, List.length_reverse, hl]
  refine ⟨Gd, _, supp, by rw [el]; exact w, hs, hg, fun i ρ1 h1 H1 x H1' l _ hr tb hi y => ?_⟩
  obtain ⟨T, x', rfl, hT, rfl, hx⟩ := y
  rw [el] at hi
  obtain ⟨d, e1, e2⟩ := (l.dvs r).get hx
  have n := Nx.alloc (o := .tup [.int (i : Nat), x']) hr tb hT
  refine ⟨n, .tup [.int ((0 + i : Nat) : Int), d], pairD_get 0 i _ d ?_, .tup (SqT.of upd_same) (.cons ?_ (.cons (n.dv hr e2) .nil))⟩
  · rw [List.getElem?_reverse (by omega), ← hl]
    exact e1
  · rw [Nat.zero_add]; exact .int _
theorem ci_revEn {f : IX} {fz : FZ} {p2 pos2 tpos : Pos} {elts : List Expr} {kk : Nat} (hg : Gl X "reversed") (hm : X.mg "reversed" = none) (hg2 : Gl X "enumerate") (hm2 : X.mg "enumerate" = none) (he : CSrc X c fz e f) (hs : starEach [e] X.env = (false, eval e X.env) :: starEach [] X.env := by rfl)
    (hs2 : starEach [.Call (.Name "reversed" p) [e] [] pos] X.env = (false, eval (.Call (.Name "reversed" p) [e] [] pos) X.env) :: starEach [] X.env := by rfl) :
    CI X c fz (.Tuple elts kk tpos) (.Call (.Name "enumerate" p2) [.Call (.Name "reversed" p) [e] [] pos] [] pos2) (iRevEn f) := by
  refine pi_weak (pi_revE hg hm hg2 hm2 he hs hs2) fun σ H R q => ?_
  obtain ⟨G, ρ, S, h, s, e⟩ := q
  refine ⟨G, ρ, S, h, s, e.bind (rel := fun ρ' Hb H' v ds => SrcR (c.p X.K) (fz G Hb) ρ' H' v ds) fun ds h1 ρ1 H1 v n1 sr e1 => ?_⟩
  obtain ⟨a, vs, supp, rfl, r, hsup, h2⟩ := sr
  refine ⟨a, vs, rfl, ?_⟩
  rcases h2 with ⟨h2, h3⟩ | ⟨h2, h3⟩
  · exact .inl ⟨h2, e1 ρ1 H1 _ n1 (itR_revE (a := a) supp walk_revE r hsup h3)⟩
  · exact .inr ⟨h2, e1 ρ1 H1 _ n1 (itR_revE (a := a) supp walk_rtE r hsup h3)⟩
end
end Sh
set_option Elab.async false
set_option linter.all false
set_option maxRecDepth 100000
set_option maxHeartbeats 1000000
namespace Sh
open PySem PySem.Spec PyProof.Rows L2
/-- the words for the five kinds of trouble -/
structure Five where
  n1 : Str
  n2 : Str
  n3 : Str
  n4 : Str
  n5 : Str
def Five.pick (f : Five) (b1 b2 b3 b4 : Bool) : Str := if b1 then f.n1 else if b2 then f.n2 else if b3 then f.n3 else if b4 then f.n4 else f.n5
/-- a trouble of the class at C is told as nm; CT: the class that is caught, C1 .. C4: those asked for -/
structure ToldC (K : PySem.W.Frag) (CT C1 C2 C3 C4 : Addr) (f : Five) (C : Addr) (nm : Str) : Prop where
  exc : ExcC K C
  exm : PySem.W.exmOne K (.ref C) (.ref CT) = some true
  kit : ∃ b1 b2 b3 b4, PySem.W.kitOne K (.ref C) (.ref C1) = some b1 ∧ PySem.W.kitOne K (.ref C) (.ref C2) = some b2 ∧ PySem.W.kitOne K (.ref C) (.ref C3) = some b3 ∧ PySem.W.kitOne K (.ref C) (.ref C4) = some b4 ∧ nm = f.pick b1 b2 b3 b4
/-- told: the value read, or the trouble's word -/
def TToldS (K : PySem.W.Frag) (CT C1 C2 C3 C4 : Addr) (fv : Five) (spR : Sp) : (XK → Hp → VK → Prop) → Hp → VK → Prop := fun tl H Q =>
  tl (fun cls d H' => ∃ C nm, cls = .ref C ∧ d = none ∧ ToldC K CT C1 C2 C3 C4 fv C nm ∧ ∀ p, H' p = none → Q (.ref p) (upd H' p (.tup [.int 1, .str nm]))) H
    fun v H1 => spR [v] H1 (fun v2 H2 => [V.int 0, v2].length ≤ sizeLine ∧ ∀ p, H2 p = none → Q (.ref p) (upd H2 p (.tup [.int 0, v2]))) fun _ _ _ => False
section
variable {X : Cx}
theorem two_size : 2 ≤ sizeLine := by decide
theorem told_gives2 {Ng : List Str} {x a q rd ct en c1 c2 c3 c4 : Str} {sg : Scope} {g CT C1 C2 C3 C4 fR : Addr} {cdg : Value} {fv : Five} {spR : Sp} {k : Nat} {fdR : FuncData} {psR : List Str}
    {j0 j1 j2 j3 j4 j5 j6 j7 j8 j9 k0 k1 k2 k3 k4 : Nat}
    {p0 p1 p2 p3 p4 p5 p6 p7 q1 q2 q3 r1 r2 r3 r4 r5 r6 r7 r8 r9 s1 s2 s3 s4 s5 s6 s7 s8 s9 t1 t2 t3 t4 t5 t6 t7 t8 t9 u1 u2 u3 u4 u5 u6 u7 u8 u9 : Pos}
    (hr : Room (k + 1) X.A) (hgR : sg.names.lookup rd = some .globalImplicit) (hmR : X.mg rd = some (.ref fR)) (hkR : PySem.W.keepIn X.K (.ref fR) = true) (hbR : Binds X.K fdR psR []) (FR : FnOk X.prog X.w X.K X.mg X.base (L2.CX X.prog X.w) k fR fdR psR spR)
    (hsp : ∀ vs H Q E, spR vs H Q (fun _ _ _ => False) → spR vs H Q E)
    (hgT : sg.names.lookup ct = some .globalImplicit) (hmT : X.mg ct = some (.ref CT)) (hg1 : sg.names.lookup c1 = some .globalImplicit) (hm1 : X.mg c1 = some (.ref C1)) (hg2 : sg.names.lookup c2 = some .globalImplicit) (hm2 : X.mg c2 = some (.ref C2))
    (hg3 : sg.names.lookup c3 = some .globalImplicit) (hm3 : X.mg c3 = some (.ref C3)) (hg4 : sg.names.lookup c4 = some .globalImplicit) (hm4 : X.mg c4 = some (.ref C4)) (hgI : sg.names.lookup ("isinstance" : Str) = some .globalImplicit) (hmI : X.mg "isinstance" = none)
    (hN : Ng = [a, en]) (hnd : Ng.Nodup) (hle : sg.names.lookup en = some .local)
    (d0 : (rd == ("__debug__" : Str)) = false) (d1 : (ct == ("__debug__" : Str)) = false) (d2 : (c1 == ("__debug__" : Str)) = false) (d3 : (c2 == ("__debug__" : Str)) = false) (d4 : (c3 == ("__debug__" : Str)) = false) (d5 : (c4 == ("__debug__" : Str)) = false) (d6 : (en == ("__debug__" : Str)) = false) (d7 : (en == ("__classdict__" : Str)) = false) :
    LamX.GivesTo X Ng x sg g cdg [.Try [.Return (some (.Tuple [.Constant (.int 0) j0 p0, .Call (.Name rd p1) [.Call (.Name a p2) [] [] p3] [] p4] k0 p5)) p6]
      [.ExceptHandler (some (.Name ct p7)) (some en)
        [.If (.Call (.Name "isinstance" q1) [.Name en q2, .Name c1 q3] [] r1) [.Return (some (.Tuple [.Constant (.int 1) j1 r2, .Constant (.str fv.n1) j2 r3] k1 r4)) r5] [] r6,
         .If (.Call (.Name "isinstance" r7) [.Name en r8, .Name c2 r9] [] s1) [.Return (some (.Tuple [.Constant (.int 1) j3 s2, .Constant (.str fv.n2) j4 s3] k2 s4)) s5] [] s6,
         .If (.Call (.Name "isinstance" s7) [.Name en s8, .Name c3 s9] [] t1) [.Return (some (.Tuple [.Constant (.int 1) j5 t2, .Constant (.str fv.n3) j6 t3] k3 t4)) t5] [] t6,
         .Return (some (.Tuple [.Constant (.int 1) j7 t7, .IfExp (.Call (.Name "isinstance" t8) [.Name en t9, .Name c4 u1] [] u2) (.Constant (.str fv.n4) j8 u3) (.Constant (.str fv.n5) j9 u4) u5] k4 u6)) u7] u8] [] [] u9] a q
      (TToldS X.K CT C1 C2 C3 C4 fv spR) := by
  intro f c' s H Q tl act hc h
  subst hN
  let Z : Cx := (cxOf C8.CX0 X.prog X.w X.K X.mg X.base [a, en] x sg g cdg X.A X.stack s H C8.E0).nox
  have hv0 : Vis Z.env.scope en := .inl hle
  have FR' : FnOk X.prog X.w X.K X.mg X.base (L2.CX X.prog X.w) k fR fdR psR (fun vs H Q _ => spR vs H Q fun _ _ _ => False) := FR.imp hsp
  refine ⟨_, pss_one (ps_try_as (X := Z) (i := 1) (n := en) (c := .ref CT)
      (tb := fun W D σ H => ∃ Ech : XK, (∀ cls d σ' H', Ech cls d H' → W cls d σ' H') ∧ σ[0]? = some (some (.ref f)) ∧ H c' = some (LamX.CodeO c' q) ∧ tl Ech H fun v H1 => spR [v] H1 (fun v2 H2 => [V.int 0, v2].length ≤ sizeLine ∧ ∀ p, H2 p = none → D.rt (.ref p) (upd H2 p (.tup [.int 0, v2]))) fun _ _ _ => False)
      (ts := fun a cls d D σ H => ∃ C nm, cls = .ref C ∧ d = none ∧ ToldC X.K CT C1 C2 C3 C4 fv C nm ∧ (1 < σ.length → σ[1]? = some (some (V.ref a))) ∧ ∀ p, H p = none → D.rt (.ref p) (upd H p (.tup [.int 1, .str nm])))
      (Wout := fun _ _ _ _ => False) rfl rfl hnd rfl hle ⟨hgT, d1, .inl hmT⟩ LamX.takes0 (fun W pn xe tk _ => ?_) (fun aE oe cls d pn hz hf => ?_)), ?_⟩
  · refine ⟨fun pins s' σ H' D I h' => ?_⟩
    obtain ⟨Ech, hW, h1, h2, h3⟩ := h'
    have hp := act W pn xe Ech p2 p3 tk hW
    have hq := pss_one (ps_ret (pos := p6) (pe_tup (x1 := k0) (pos := p5) (pa_cons (pe_int (i := 0) (pos := p0) (j := j0)) (pa_cons (pe_callS (X := Z.tr pn xe) (p := p1) (pos := p4) FR' (hr.deeper _) hgR hmR hkR hbR (fun σ => passAt tk σ) (pa_cons hp pa_nil) d0) pa_nil))))
    exact hq.run pins s' σ H' D I ⟨h1, h2, h3⟩
  · refine ⟨fun pins s' σ H' D I h' => ?_⟩
    obtain ⟨C, nm, rfl, rfl, hT, hσ, hk⟩ := h'
    obtain ⟨b1, b2, b3, b4, e1, e2, e3, e4, rfl⟩ := hT.kit
    have hσ := hσ (by rw [I.len]; exact Nat.lt_succ_self 1)
    have isE : ∀ {cN : Str} {CN : Addr} (hgN : sg.names.lookup cN = some .globalImplicit) (hmN : X.mg cN = some (.ref CN)) (dN : (cN == ("__debug__" : Str)) = false) (pa pb pc pd : Pos), PT (Z.suite aE ((aE, oe) :: pn)) (.Call (.Name "isinstance" pa) [.Name en pb, .Name cN pc] [] pd) (_) := fun {cN CN} hgN hmN dN pa pb pc pd =>
      pt_truth (pe_callB (X := Z.suite aE ((aE, oe) :: pn)) (call_isE hT.exc hz hf) hgI hmI boot_isinstance (pa_cons (pe_var (i := 1) rfl hv0 d6 d7) (pa_cons (pe_glob (v := .ref CN) hgN hmN rfl dN) pa_nil))) (fun _ => rfl)
    have hq := pss_cons (ps_if (pos := r6) (isE hg1 hm1 d2 q1 q2 q3 r1) (pss_one (ps_ret (pos := r5) (pe_tup (x1 := k1) (pos := r4) (pa_cons (pe_int (i := 1) (pos := r2) (j := j1)) (pa_cons (pe_str (x := fv.n1) (pos := r3) (j := j2)) pa_nil))))) pss_nil)
      (pss_cons (ps_if (pos := s6) (isE hg2 hm2 d3 r7 r8 r9 s1) (pss_one (ps_ret (pos := s5) (pe_tup (x1 := k2) (pos := s4) (pa_cons (pe_int (i := 1) (pos := s2) (j := j3)) (pa_cons (pe_str (x := fv.n2) (pos := s3) (j := j4)) pa_nil))))) pss_nil)
      (pss_cons (ps_if (pos := t6) (isE hg3 hm3 d4 s7 s8 s9 t1) (pss_one (ps_ret (pos := t5) (pe_tup (x1 := k3) (pos := t4) (pa_cons (pe_int (i := 1) (pos := t2) (j := j5)) (pa_cons (pe_str (x := fv.n3) (pos := t3) (j := j6)) pa_nil))))) pss_nil)
      (pss_one (ps_ret (pos := u7) (pe_tup (x1 := k4) (pos := u6) (pa_cons (pe_int (i := 1) (pos := t7) (j := j7)) (pa_cons (pe_ifExp (pos := u5) (isE hg4 hm4 d5 t8 t9 u1 u2) (pe_str (x := fv.n4) (pos := u3) (j := j8)) (pe_str (x := fv.n5) (pos := u4) (j := j9))) pa_nil)))))))
    have two : ∀ nm : Str, [V.int 1, V.str nm].length ≤ sizeLine := fun _ => two_size
    refine hq.run pins s' σ H' D I ?_
    refine ⟨_, hσ, .ref C1, .ref C1, b1, rfl, fun u r => r, e1, b1, rfl, ?_⟩
    cases b1 with
    | true => exact iteT ⟨two _, hk⟩
    | false =>
      refine iteF ⟨_, hσ, .ref C2, .ref C2, b2, rfl, fun u r => r, e2, b2, rfl, ?_⟩
      cases b2 with
      | true => exact iteT ⟨two _, hk⟩
      | false =>
        refine iteF ⟨_, hσ, .ref C3, .ref C3, b3, rfl, fun u r => r, e3, b3, rfl, ?_⟩
        cases b3 with
        | true => exact iteT ⟨two _, hk⟩
        | false =>
          refine iteF ⟨_, hσ, .ref C4, .ref C4, b4, rfl, fun u r => r, e4, b4, rfl, ?_⟩
          cases b4 with
          | true => exact iteT ⟨two _, hk⟩
          | false => exact iteF ⟨two _, hk⟩
  · refine ⟨_, fun cls d σ' H' hE => ?_, rfl, hc, h⟩
    obtain ⟨C, nm, rfl, rfl, hT, hk⟩ := hE
    refine ⟨true, hT.exm, fun _ aE _ => ⟨C, nm, rfl, rfl, hT, fun hl => ?_, hk⟩, fun z => by cases z⟩
    rw [List.length_set] at hl
    exact List.getElem?_set_self hl
end
end Sh
set_option Elab.async false
set_option linter.all false
set_option maxRecDepth 100000
set_option maxHeartbeats 2000000
namespace Sh
open PySem PySem.Spec PyProof.Rows L2 LamX
section
variable {X : Cx} {pins : List (Addr × Obj)} {σ : L2.St} {H : Hp} {s : Shared}
/-- a lambda is made: the tables' step, the new function f -/
theorem lam_new {T : List (Addr × Str)} {c P : Addr} {params : Arguments} {body : Expr} {scope : Scope} {pos : Pos} {E : Value → Shared → Prop} {Q : Value → Shared → Prop} (I : L2.Inv X pins σ H s) (TB : TabB X.base X.mg c P) (hcode : X.env.code = .ref c)
    (hm : (P, X.env.qual ++ "<lambda>") ∈ T) (hu : ∀ p ∈ T, p.1 = P → p.2 = X.env.qual ++ "<lambda>") (hT : Tabs T H) (hdef : defaultsOf params X.env = ([], [])) (hfree : ∀ y ∈ scope.names, y.2 = .free → ∃ c, X.env.cells.lookup y.1 = some c)
    (h : ∀ (f c' : Addr) (pm ctv : Value) (H1 : Hp) (s' : Shared), L2.Inv X pins σ H1 s' → ExtN H H1 → Tabs T H1 → (∀ b ps, H b = some (.tbl ps) → ∃ qs, H1 b = some (.tbl qs)) →
      s'.heap.get? f = some (PySem.W.kla_obj "<lambda>" (X.env.qual ++ "<lambda>") params body scope (cloFrom X.env.cells scope.names []) pm c' ctv) → H1 f = none → f ∉ frs X.stack → H1 c' = some (CodeO c' (X.env.qual ++ "<lambda>")) → Q (.ref f) s') :
    wpAny (model X.prog X.w) X.A (eval (.Lambda params body scope pos) X.env) Q E s := by
  obtain ⟨ps, hP, ht, ha⟩ := hT _ hm
  have hP : H P = some (.tbl ps) := hP
  have hP' : s.heap.get? P = some { cls := .none, data := .fields ps } := I.hok P _ hP
  have bP : s.heap.BuiltinsAt X.mg P := TB.bm.keeps I.bk
  refine PySem.W.kla_eval hdef ?_
  -- the function's object comes last, behind the step
  have last : ∀ {H1 : Hp} {h' : Heap} {tk : Nat} {c' : Addr} {ctv : Value}, TabStep X pins σ T P H H1 s { s with heap := h', toks := tk } → H1 c' = some (CodeO c' (X.env.qual ++ "<lambda>")) →
      Q (.ref h'.objs.size) { s with heap := h'.push (PySem.W.kla_obj "<lambda>" (X.env.qual ++ "<lambda>") params body scope (cloFrom X.env.cells scope.names []) ((X.mg "__name__").getD .none) c' ctv), toks := tk } := fun {H1 h' tk c' ctv} st hc => by
    have I1 := st.inv.kept (t' := tk) (h' := h'.push (PySem.W.kla_obj "<lambda>" (X.env.qual ++ "<lambda>") params body scope (cloFrom X.env.cells scope.names []) ((X.mg "__name__").getD .none) c' ctv)) fun b o e => Heap.get?_push_of_some _ e
    refine h _ c' ((X.mg "__name__").getD .none) ctv H1 _ I1 st.ext st.tabs st.tbl (Heap.get?_push_size _ rfl) (st.inv.hok.fresh (Nat.le_refl _)) (fun z => ?_) hc
    rcases List.mem_cons.mp (st.inv.stkSub _ z) with e | e
    · have h1 := st.inv.lt
      rw [← e] at h1
      exact Nat.lt_irrefl _ h1
    · exact st.inv.nofs (Nat.le_refl _) e
  cases hc : codeAmong pos ps.toList with
  | none =>
    refine PySem.W.kla_makeFunction (mg := X.mg) (c := c) (P := P) (ps := ps) (closure_ok hfree) I.ok.glob (I.mod.glob.keeps I.bk) hcode (TB.code.keeps I.bk) hP' ht hc TB.gP bP fun c' ctv h' tk hx hge hlt hrec htb => ?_
    obtain ⟨c2, oc, vs, t, e2, hoc, hd, hv⟩ := hrec
    cases e2
    obtain ⟨H1, st, hcc⟩ := TabStep.grow (tk := tk) I hT hm hu hP hx htb hge hlt ⟨oc, vs, t, hoc, hd, hv⟩
    exact last st hcc
  | some cv =>
    obtain ⟨c', rfl, hco⟩ := ha pos cv hc
    refine PySem.W.kla_makeFunctionHit (mg := X.mg) (c := c) (P := P) (ps := ps) (closure_ok hfree) I.ok.glob (I.mod.glob.keeps I.bk) hcode (TB.code.keeps I.bk) hP' ht hc bP fun ctv h' tk hx hsz => ?_
    exact last ⟨I.kept (t' := tk) hx, ExtN.refl H, hT, fun b o _ e => hx b o e, fun _ _ n => n, fun _ ps e => ⟨ps, e⟩, hsz⟩ hco
end
def tLam3 (T : List (Addr × Str)) (TT : (XK → Hp → VK → Prop) → Hp → VK → Prop) (t : XK → TE) : TE := fun σ H Q => Tabs T H ∧ ∀ H1, ExtN H H1 → Tabs T H1 → (∀ b ps, H b = some (.tbl ps) → ∃ qs, H1 b = some (.tbl qs)) → TT (fun E H' Q' => t E σ H' Q') H1 Q
/-- a def of one parameter that takes a lambda and calls it -/
structure Taker (X : Cx) (x a : Str) (g : Addr) (fd : FuncData) (Ng : List Str) (bg : List Stmt) (sg : Scope) (cdv : Value) : Prop where
  look : ∃ (pg : Arguments) (dV kV doc pm ct oc : Value) (an od : Option Addr) (osl : Array (Option Value)), fd = PySem.W.fnOf x x pg bg sg dV kV doc pm an cdv ct ∧ X.K.lookup g = some ⟨oc, od, .func fd, osl⟩
  code : PySem.W.codeIn X.K cdv x = true
  mg : X.mg x = some (.ref g)
  keep : PySem.W.keepIn X.K (.ref g) = true
  binds : L2.Binds X.K fd [a] []
  scope : FnScope Ng [a] sg
  first : Ng[0]? = some a
  vis : Vis sg a
section
variable {X : Cx}
/-- x(lambda: body) -/
theorem pe_lam {T : List (Addr × Str)} {TT : (XK → Hp → VK → Prop) → Hp → VK → Prop} {x a : Str} {g c P : Addr} {k : Nat} {fd : FuncData} {bg : List Stmt} {sg : Scope} {cdv : Value} {Ng : List Str} {params : Arguments} {body : Expr} {scope : Scope} {t : XK → TE} {p lpos pos : Pos}
    (hg : Gl X x) (tr : Taker X x a g fd Ng bg sg cdv) (hG : GivesTo X Ng x sg g cdv bg a (X.env.qual ++ "<lambda>") TT)
    (TB : TabB X.base X.mg c P) (hcode : X.env.code = .ref c) (hmT : (P, X.env.qual ++ "<lambda>") ∈ T) (hu : ∀ p ∈ T, p.1 = P → p.2 = X.env.qual ++ "<lambda>") (hr : Room (k + 2) X.A) (L : LamS X.env.scope scope) (hdef : defaultsOf params X.env = ([], []))
    (hbind : ∀ (q : Str) (cl : List (Str × Addr)) (pm cv ctv : Value), bindArgs (PySem.W.kla_fn "<lambda>" q params body scope cl pm cv ctv) ⟨[], []⟩ = pure [])
    (hbody : ∀ (A : Around) (outer : List Env) (s : Shared) (H : Hp) (E : XK) (f c' : Addr), Room k (A.deeper (lamEnv X scope s.heap.objs.size f c')) → PE (lamCx X A outer s H E scope f c') body (t E))
    (hdb : (x == ("__debug__" : Str)) = false := by decide) (hd : (a == ("__debug__" : Str)) = false := by decide) (hcd : (a == ("__classdict__" : Str)) = false := by decide) :
    PE X (.Call (.Name x p) [.Lambda params body scope lpos] [] pos) (tLam3 T TT t) := by
  refine ⟨fun pins s σ H Q I h => ?_⟩
  obtain ⟨hT, h⟩ := h
  obtain ⟨pg, dV, kV, doc, pm, ct, oc, an, od, osl, rfl, lk⟩ := tr.look
  refine wpAny_Call_Name_kw (ld_glob I hg tr.mg ?_ hdb)
  refine PySem.W.callWith_K (h₀ := X.base) I.ok.mod.kin tr.keep ?_ (by rfl) (by rfl)
  show wpAny _ _ (spliced ((false, eval (.Lambda params body scope lpos) X.env) :: backTo pos (starEach [] X.env))) _ _ s
  refine Calls.spliced_cons (lam_new I TB hcode hmT hu hT hdef (L.has I.ok) fun f c' pm' ctv H1 s' I1 eN T1 tk1 hf hfn hfr hco => Calls.spliced_nil ⟨I1.kIn, ?_⟩)
  have rc : codeAny (model X.prog X.w) X.A (.call (.ref g) ⟨[.ref f], []⟩) (CR C8.CX0 X.stack X.prog X.w H1 s' Q C8.E0) s' := by
    refine run_ofS (N := Ng) (ps := [a]) (us := [.ref f]) (vs := [.ref f]) lk tr.code tr.scope hr I1.env0 ?_ (.cons rfl .nil) rfl fun hr' => ?_
    · exact tr.binds s' [.ref f] I1.kIn rfl
    obtain ⟨t', ht', hq'⟩ := hG f c' s' H1 Q (fun E H' Q' => t E σ H' Q') (fun W pn xe E p1 p2 tk hW => pe_act (i := 0) I1 L hf hfn hfr (hbind _ _ _ _ _) tk hW hr' (fun A outer s H hr2 => hbody A outer s H E f c' hr2) tr.first tr.vis hd hcd) hco (h H1 eN T1 tk1)
    exact ⟨t', ht'.nox, hq'⟩
  refine wpAny_call (codeAny_mono rc fun r s2 hq => ?_)
  cases r with
  | error e => exact (show False from hq).elim
  | ok fl =>
    cases fl with
    | ret u => exact I1.after hq
    | _ => exact False.elim hq
end
/-! ### told -/
def xTold (rd : Fd) (nmF : Str → Option Str) (fb : EX) : EX := fun S h => match fb S h with
  | some (.ok r h1) => (match rd [r] h1 with
    | some (.ok (.d v) h2) => some (.ok (.d (.tup [.int 0, v])) h2)
    | _ => none)
  | some (.exc cn h1) => (match nmF cn with
    | some nm => some (.ok (.d (.tup [.int 1, .str nm])) h1)
    | none => none)
  | none => none
section
variable {X : Cx} {c : Cc}
theorem ce_told {x a : Str} {g co P CT C1 C2 C3 C4 : Addr} {k : Nat} {fd : FuncData} {bg : List Stmt} {sg : Scope} {cdv : Value} {Ng : List Str} {params : Arguments} {body : Expr} {scope : Scope} {p lpos pos : Pos} {fv : Five} {rd : Fd} {nmF : Str → Option Str} {fb : EX}
    (hg : Gl X x) (tr : Taker X x a g fd Ng bg sg cdv) (hG : GivesTo X Ng x sg g cdv bg a (X.env.qual ++ "<lambda>") (TToldS X.K CT C1 C2 C3 C4 fv (spF (c.p X.K) 1 rd))) (hnm : ∀ cn nm, nmF cn = some nm → ToldC X.K CT C1 C2 C3 C4 fv (c.cad cn) nm)
    (TB : TabB X.base X.mg co P) (hcode : X.env.code = .ref co) (hmT : (P, X.env.qual ++ "<lambda>") ∈ c.T) (hu : ∀ p ∈ c.T, p.1 = P → p.2 = X.env.qual ++ "<lambda>") (hr : Room (k + 2) X.A) (L : LamS X.env.scope scope) (hdef : defaultsOf params X.env = ([], []))
    (hbind : ∀ (q : Str) (cl : List (Str × Addr)) (pm cv ctv : Value), bindArgs (PySem.W.kla_fn "<lambda>" q params body scope cl pm cv ctv) ⟨[], []⟩ = pure [])
    (hbody : ∀ (A : Around) (outer : List Env) (s : Shared) (H : Hp) (E : XK) (f c' : Addr), Room k (A.deeper (lamEnv X scope s.heap.objs.size f c')) → CE (lamCx X A outer s H E scope f c') { c with W := fun cls d _ H' => E cls d H' } body fb)
    (hdb : (x == ("__debug__" : Str)) = false := by decide) (hd : (a == ("__debug__" : Str)) = false := by decide) (hcd : (a == ("__classdict__" : Str)) = false := by decide) :
    CE X c (.Call (.Name x p) [.Lambda params body scope lpos] [] pos) (xTold rd nmF fb) := by
  refine pe_weak (pe_lam (t := fun E => tE X.K { c with W := fun cls d _ H' => E cls d H' } fb) hg tr hG TB hcode hmT hu hr L hdef hbind hbody hdb hd hcd) fun σ H Q q => ?_
  obtain ⟨G, ρ, S, h, s, e⟩ := q
  refine ⟨s.tb, fun H1 hE hT1 htk => ?_⟩
  have n1 : Nx (c.p X.K) ρ H ρ h H1 := .extN s.hr hE hT1 htk
  refine ⟨G, ρ, S, h, s.nx n1, ?_⟩
  unfold xTold at e
  cases hf : fb S h with
  | none => rw [hf] at e; exact e
  | some r =>
    rw [hf] at e
    cases r with
    | ok r h1 =>
      simp only at e
      intro ρ2 H2 v n2 rv
      refine ⟨rfl, ρ2, h1, H1, [r], n2.hr, n2.tb, .cons rv .nil, ?_⟩
      have n12 := n1.trans n2
      cases hrd : rd [r] h1 with
      | none => rw [hrd] at e; exact e.elim
      | some z =>
        rw [hrd] at e
        cases z with
        | exc cn h2 => exact e.elim
        | ok r2 h2 =>
          cases r2 with
          | d d =>
            intro ρ3 H3 v2 n3 rv2
            have n123 := n12.trans n3
            exact ⟨two_size, fun z hz => new_tup n123.hr n123.tb (.cons (.int 0) (.cons rv2 .nil)) hz (e.finE n123 s.hr)⟩
          | _ => exact e.elim
    | exc cn h1 =>
      simp only at e
      intro ρ2 H2 n2
      have n12 := n1.trans n2
      cases hn : nmF cn with
      | none => rw [hn] at e; exact e.elim
      | some nm =>
        rw [hn] at e
        exact ⟨_, nm, rfl, rfl, hnm cn nm hn, fun z hz => new_tup n12.hr n12.tb (.cons (.int 1) (.cons (.str nm) .nil)) hz (e.finE n12 s.hr)⟩
end
end Sh
set_option Elab.async false
set_option linter.all false
set_option maxRecDepth 100000
set_option maxHeartbeats 2000000
namespace Sh65
open PySem PySem.Spec PyProof.Rows L2 Sh
inductive Fn where
  | f_is_int
  | f_digits
  | f_written
  | f_sums
  | f_sent
  | f_number_at
  | f_thing_at
  | f_received
  | f_law_cell
  | f_law_stream
  | f_law_draw
  | f_law_read
  | f_law_told
  | f_law_thing
  | f_law_digits
  | f_law_write
  | f_law_sums
  | f_law_number
  | f_law_at
  | f_law_received
  | f_law
  deriving DecidableEq, Inhabited
def nmOf : Fn → Str
  | .f_is_int => "is_int"
  | .f_digits => "digits"
  | .f_written => "written"
  | .f_sums => "sums"
  | .f_sent => "sent"
  | .f_number_at => "number_at"
  | .f_thing_at => "thing_at"
  | .f_received => "received"
  | .f_law_cell => "_law_cell"
  | .f_law_stream => "_law_stream"
  | .f_law_draw => "_law_draw"
  | .f_law_read => "_law_read"
  | .f_law_told => "_law_told"
  | .f_law_thing => "_law_thing"
  | .f_law_digits => "_law_digits"
  | .f_law_write => "_law_write"
  | .f_law_sums => "_law_sums"
  | .f_law_number => "_law_number"
  | .f_law_at => "_law_at"
  | .f_law_received => "_law_received"
  | .f_law => "law"
def ixOf : Fn → Nat
  | .f_is_int => 7
  | .f_digits => 10
  | .f_written => 11
  | .f_sums => 12
  | .f_sent => 13
  | .f_number_at => 15
  | .f_thing_at => 16
  | .f_received => 17
  | .f_law_cell => 19
  | .f_law_stream => 20
  | .f_law_draw => 21
  | .f_law_read => 22
  | .f_law_told => 23
  | .f_law_thing => 24
  | .f_law_digits => 25
  | .f_law_write => 26
  | .f_law_sums => 27
  | .f_law_number => 28
  | .f_law_at => 29
  | .f_law_received => 30
  | .f_law => 31
def psOf : Fn → List Str
  | .f_is_int => ["k"]
  | .f_digits => ["k"]
  | .f_written => ["thing"]
  | .f_sums => ["row"]
  | .f_sent => ["thing"]
  | .f_number_at => ["row", "at"]
  | .f_thing_at => ["row", "at"]
  | .f_received => ["row"]
  | .f_law_cell => ["script", "k"]
  | .f_law_stream => ["script", "k"]
  | .f_law_draw => ["box", "many"]
  | .f_law_read => ["told"]
  | .f_law_told => ["call"]
  | .f_law_thing => ["box", "deep"]
  | .f_law_digits => ["k"]
  | .f_law_write => ["thing"]
  | .f_law_sums => ["row"]
  | .f_law_number => ["row", "at"]
  | .f_law_at => ["row", "at"]
  | .f_law_received => ["row"]
  | .f_law => ["script"]
def locOf : Fn → List Str
  | .f_is_int => ["k"]
  | .f_digits => ["k", "made"]
  | .f_written => ["thing", "sign", "made", "part"]
  | .f_sums => ["row", "one", "other", "place", "k"]
  | .f_sent => ["thing", "row"]
  | .f_number_at => ["row", "at", "k", "times", "begin"]
  | .f_thing_at => ["row", "at", "kind", "k", "sign", "made", "part", "thing"]
  | .f_received => ["row", "k", "thing", "at"]
  | .f_law_cell => ["script", "k"]
  | .f_law_stream => ["script", "k"]
  | .f_law_draw => ["box", "many", "told"]
  | .f_law_read => ["told", "part"]
  | .f_law_told => ["call", "e"]
  | .f_law_thing => ["box", "deep", "pick", "k", "text"]
  | .f_law_digits => ["k"]
  | .f_law_write => ["thing", "made", "part", "sign"]
  | .f_law_sums => ["row", "one", "other", "j"]
  | .f_law_number => ["row", "at", "k", "times", "first"]
  | .f_law_at => ["row", "at", "told", "k", "place", "signs", "sign", "made", "j", "one"]
  | .f_law_received => ["row", "told"]
  | .f_law => ["script", "box", "thing", "due", "row", "times", "j", "k", "other", "some", "wrong"]
def k_SIGNS : Str := "abcdefghijklmnopqrstuvwxyz0123456789_+-*/<=!"

def top (i : Nat) : Stmt := PySem.Challenge.pw_truetotype_k65_sending.main.body.getD i (.Pass ⟨0, 0, 0, 0⟩)
abbrev stOf (f : Fn) : Stmt := top (ixOf f)
def wN : Nat := 1000000
def m_Wrong : Str → Option Bool := fun cn => if cn = "Wrong" then some true else none
def nmF : Str → Option Str := fun cn => if cn = "BadRun" then some "run" else none
noncomputable def b_f_is_int (cs : Fn → Fd) : SX :=
  (sRet (op2 gIs (opN (g1 gTy) (aCons (xVar 0) aNil)) (xC (.ty "int"))))
noncomputable def b_f_digits (cs : Fn → Fd) : SX :=
  (sSeq (sSet 1 (xLst aNil))
  (sSeq (sWhile (xTest (op2 gGe (xVar 0) (xC (.int 128)))) (sSeq (sAppOwn 1 (op2 gAdd (op2 gMod (xVar 0) (xC (.int 128))) (xC (.int 128))))
  (sSet 0 (op2 gDiv (xVar 0) (xC (.int 128))))) wN)
  (sRet (op2 gAdd (xVar 1) (xLst (aCons (xVar 0) aNil))))))
noncomputable def b_f_written (cs : Fn → Fd) : SX :=
  (sSeq (sIf (xTru (opC 1 (cs .f_is_int) (aCons (xVar 0) aNil))) (sRet (op2 gAdd (xLst (aCons (xC (.int 1)) aNil)) (opC 1 (cs .f_digits) (aCons (xIf (xTest (op2 gGe (xVar 0) (xC (.int 0)))) (op2 gMul (xC (.int 2)) (xVar 0)) (op2 gSub (op2 gMul (op1 gNeg (xC (.int 2))) (xVar 0)) (xC (.int 1)))) aNil)))) sNil)
  (sSeq (sIf (xTest (op2 gIs (opN (g1 gTy) (aCons (xVar 0) aNil)) (xC (.ty "str")))) (sSeq (sIf (xTru (xAny true (iE itemsE (xVar 0)) [1] (gNm 1) xYes (op2 gNotIn (xVar 1) (xC (.str k_SIGNS))))) (sRaise "BadRun" (aCons (xC (.str "no such sign")) aNil)) sNil)
  (sRet (op2 gAdd (op2 gAdd (xLst (aCons (xC (.int 2)) aNil)) (opC 1 (cs .f_digits) (aCons (opN (g1 gLen) (aCons (xVar 0) aNil)) aNil))) (xLc (iE itemsE (xVar 0)) [1] (gNm 1) xYes (opM1 gSIndex (xC (.str k_SIGNS)) (xVar 1)))))) sNil)
  (sSeq (sIf (xTest (op2 gIsNot (opN (g1 gTy) (aCons (xVar 0) aNil)) (xC (.ty "tuple")))) (sRaise "BadRun" (aCons (xC (.str "nothing that is sent")) aNil)) sNil)
  (sSeq (sSet 2 (op2 gAdd (xLst (aCons (xC (.int 3)) aNil)) (opC 1 (cs .f_digits) (aCons (opN (g1 gLen) (aCons (xVar 0) aNil)) aNil))))
  (sSeq (sFor (iV 0) (gNm 3) (sExt 2 (opC 1 (cs .f_written) (aCons (xVar 3) aNil))))
  (sRetV 2))))))
noncomputable def b_f_sums (cs : Fn → Fd) : SX :=
  (sSeq (sAsg2 (gNm 1) (gNm 2) (xC (.int 0)))
  (sSeq (sFor (iRevEn (iVs 0)) (gTupD 2 (gConsD (gNm 3) (gConsD (gNm 4) gNilD))) (sSeq (sAug gIAdd 1 (xVar 4))
  (sAug gIAdd 2 (op2 gMul (op2 gAdd (xVar 3) (xC (.int 1))) (xVar 4)))))
  (sRet (xLst (aCons (op2 gMod (xVar 1) (xC (.int 256))) (aCons (op2 gMod (xVar 2) (xC (.int 256))) aNil))))))
noncomputable def b_f_sent (cs : Fn → Fd) : SX :=
  (sSeq (sSet 1 (opC 1 (cs .f_written) (aCons (xVar 0) aNil)))
  (sRet (opN (g1 gTuple) (aCons (op2 gAdd (xVar 1) (opC 1 (cs .f_sums) (aCons (xVar 1) aNil))) aNil))))
noncomputable def b_f_number_at (cs : Fn → Fd) : SX :=
  (sSeq (sPar3 2 3 4 (aCons (xC (.int 0)) (aCons (xC (.int 1)) (aCons (xVar 1) aNil))))
  (sSeq (sWhile (xTru (xC (.bl true))) (sSeq (sIf (xTest (op2 gGe (xVar 1) (opN (g1 gLen) (aCons (xVar 0) aNil)))) (sRaise "Wrong" aNil) sNil)
  (sSeq (sAug gIAdd 2 (op2 gMul (xVar 3) (op2 gMod (op2 gIx (xVar 0) (xVar 1)) (xC (.int 128)))))
  (sSeq (sSet 3 (op2 gMul (xVar 3) (xC (.int 128))))
  (sSeq (sAug gIAdd 1 (xC (.int 1)))
  (sIf (xTest (op2 gLt (op2 gIx (xVar 0) (op2 gSub (xVar 1) (xC (.int 1)))) (xC (.int 128)))) sBrk sNil))))) wN)
  (sSeq (sIf (xAnd (xTest (op2 gEq (op2 gIx (xVar 0) (op2 gSub (xVar 1) (xC (.int 1)))) (xC (.int 0)))) (xTest (op2 gGt (op2 gSub (xVar 1) (xVar 4)) (xC (.int 1))))) (sRaise "Wrong" aNil) sNil)
  (sRet (xTup (aCons (xVar 2) (aCons (xVar 1) aNil)))))))
noncomputable def b_f_thing_at (cs : Fn → Fd) : SX :=
  (sSeq (sIf (xOr (xTest (op2 gGe (xVar 1) (opN (g1 gLen) (aCons (xVar 0) aNil)))) (xTest (op2 gNotIn (op2 gIx (xVar 0) (xVar 1)) (xTup (aCons (xC (.int 1)) (aCons (xC (.int 2)) (aCons (xC (.int 3)) aNil))))))) (sRaise "Wrong" aNil) sNil)
  (sSeq (sSet 2 (op2 gIx (xVar 0) (xVar 1)))
  (sSeq (sAsg (gTupD 2 (gConsD (gNm 3) (gConsD (gNm 1) gNilD))) (opC 2 (cs .f_number_at) (aCons (xVar 0) (aCons (op2 gAdd (xVar 1) (xC (.int 1))) aNil))))
  (sSeq (sIf (xTest (op2 gEq (xVar 2) (xC (.int 1)))) (sRet (xTup (aCons (xIf (xTest (op2 gEq (op2 gMod (xVar 3) (xC (.int 2))) (xC (.int 0)))) (op2 gDiv (xVar 3) (xC (.int 2))) (op2 gDiv (op1 gNeg (op2 gAdd (xVar 3) (xC (.int 1)))) (xC (.int 2)))) (aCons (xVar 1) aNil)))) sNil)
  (sSeq (sIf (xTest (op2 gGt (xVar 3) (op2 gSub (opN (g1 gLen) (aCons (xVar 0) aNil)) (xVar 1)))) (sRaise "Wrong" aNil) sNil)
  (sSeq (sIf (xTest (op2 gEq (xVar 2) (xC (.int 2)))) (sSeq (sIf (xTru (xAny true (iE itemsE (xSl (xVar 0) (oSome (xVar 1)) (oSome (op2 gAdd (xVar 1) (xVar 3))))) [4] (gNm 4) xYes (op2 gGe (xVar 4) (opN (g1 gLen) (aCons (xC (.str k_SIGNS)) aNil))))) (sRaise "Wrong" aNil) sNil)
  (sRet (xTup (aCons (opM1 gJoin (xC (.str "")) (xLc (iE itemsE (xSl (xVar 0) (oSome (xVar 1)) (oSome (op2 gAdd (xVar 1) (xVar 3))))) [4] (gNm 4) xYes (op2 gIx (xC (.str k_SIGNS)) (xVar 4)))) (aCons (op2 gAdd (xVar 1) (xVar 3)) aNil))))) sNil)
  (sSeq (sSet 5 (xTup aNil))
  (sSeq (sFor (iRg1 (xVar 3)) (gNm 6) (sSeq (sAsg (gTupD 2 (gConsD (gNm 7) (gConsD (gNm 1) gNilD))) (opC 2 (cs .f_thing_at) (aCons (xVar 0) (aCons (xVar 1) aNil))))
  (sAug gICat 5 (xTup (aCons (xVar 7) aNil)))))
  (sRet (xTup (aCons (xVar 5) (aCons (xVar 1) aNil))))))))))))
noncomputable def b_f_received (cs : Fn → Fd) : SX :=
  (sSeq (sIf (xOr (xTest (op2 gIsNot (opN (g1 gTy) (aCons (xVar 0) aNil)) (xC (.ty "tuple")))) (xOr (xTest (op2 gLt (opN (g1 gLen) (aCons (xVar 0) aNil)) (xC (.int 2)))) (xNot (xTru (xAny false (iE itemsE (xVar 0)) [1] (gNm 1) xYes (xAndV (opC 1 (cs .f_is_int) (aCons (xVar 1) aNil)) (xChain gLe gLe (xC (.int 0)) (xVar 1) (xC (.int 255))))))))) (sRet (xTup (aCons (xC (.str "no")) aNil))) sNil)
  (sSeq (sIf (xTest (op2 gNe (opN (g1 gList) (aCons (xSl (xVar 0) (oSome (op1 gNeg (xC (.int 2)))) oNone) aNil)) (opC 1 (cs .f_sums) (aCons (xSl (xVar 0) oNone (oSome (op1 gNeg (xC (.int 2))))) aNil)))) (sRet (xTup (aCons (xC (.str "no")) aNil))) sNil)
  (sSeq (sTry m_Wrong (sAsg (gTupD 2 (gConsD (gNm 2) (gConsD (gNm 3) gNilD))) (opC 2 (cs .f_thing_at) (aCons (xSl (xVar 0) oNone (oSome (op1 gNeg (xC (.int 2))))) (aCons (xC (.int 0)) aNil)))) (sRet (xTup (aCons (xC (.str "no")) aNil))))
  (sRet (xIf (xTest (op2 gEq (xVar 3) (op2 gSub (opN (g1 gLen) (aCons (xVar 0) aNil)) (xC (.int 2))))) (xTup (aCons (xC (.str "yes")) (aCons (xVar 2) aNil))) (xTup (aCons (xC (.str "no")) aNil)))))))
noncomputable def b_f_law_cell (cs : Fn → Fd) : SX :=
  (sRet (xIf (xTest (op2 gLt (xVar 1) (opN (g1 gLen) (aCons (xVar 0) aNil)))) (opN (g1 gInt) (aCons (op2 gIx (xVar 0) (xVar 1)) aNil)) (xC (.int 0))))
noncomputable def b_f_law_stream (cs : Fn → Fd) : SX :=
  (sRet (xLst (aCons (opN (g1 gAbs) (aCons (opC 2 (cs .f_law_cell) (aCons (xVar 0) (aCons (xVar 1) aNil))) aNil)) (aCons (op2 gAdd (op2 gMod (opN (g1 gAbs) (aCons (opC 2 (cs .f_law_cell) (aCons (xVar 0) (aCons (xVar 1) aNil))) aNil)) (xC (.int 1000003))) (xC (.int 7))) aNil))))
noncomputable def b_f_law_draw (cs : Fn → Fd) : SX :=
  (sSeq (sIf (xTest (op2 gGt (op2 gIx (xVar 0) (xC (.int 0))) (xC (.int 0)))) (sSeq (sSet 2 (op2 gMod (op2 gIx (xVar 0) (xC (.int 0))) (xVar 1)))
  (sSeq (sSetIx (xVar 0) (xC (.int 0)) (op2 gDiv (op2 gIx (xVar 0) (xC (.int 0))) (xVar 1)))
  (sRet (opN (g1 gInt) (aCons (xVar 2) aNil))))) sNil)
  (sSeq (sSetIx (xVar 0) (xC (.int 1)) (op2 gMod (opN (g1 gInt) (aCons (op2 gAdd (op2 gMul (op2 gIx (xVar 0) (xC (.int 1))) (xC (.int 48271))) (xC (.int 12345))) aNil)) (xC (.int 2147483647))))
  (sRet (op2 gMod (opN (g1 gInt) (aCons (op2 gDiv (op2 gIx (xVar 0) (xC (.int 1))) (xC (.int 64))) aNil)) (xVar 1)))))
noncomputable def b_f_law_read (cs : Fn → Fd) : SX :=
  (sSeq (sIf (xOr (xTest (op2 gIs (xVar 0) (xC .non))) (xOr (xTest (op2 gIs (xVar 0) (xC (.bl true)))) (xTest (op2 gIs (xVar 0) (xC (.bl false)))))) (sRetV 0) sNil)
  (sSeq (sIf (xTru (opN (g2 gIsi) (aCons (xVar 0) (aCons (xC (.ty "int")) aNil)))) (sRet (opN (g1 gInt) (aCons (xVar 0) aNil))) sNil)
  (sSeq (sIf (xTru (opN (g2 gIsi) (aCons (xVar 0) (aCons (xC (.ty "str")) aNil)))) (sRet (op2 gAdd (xC (.str "")) (xVar 0))) sNil)
  (sSeq (sIf (xTru (opN (g2 gIsi) (aCons (xVar 0) (aCons (xC (.ty "tuple")) aNil)))) (sRet (opN (g1 gTuple) (aCons (xLc (iE itemsE (xVar 0)) [1] (gNm 1) xYes (opC 1 (cs .f_law_read) (aCons (xVar 1) aNil))) aNil))) sNil)
  (sRet (xC (.str "something else")))))))
-- _law_told: try
noncomputable def b_f_law_thing (cs : Fn → Fd) : SX :=
  (sSeq (sSet 2 (opC 2 (cs .f_law_draw) (aCons (xVar 0) (aCons (xC (.int 5)) aNil))))
  (sSeq (sIf (xAnd (xTest (op2 gGt (xVar 1) (xC (.int 0)))) (xTest (op2 gLt (xVar 2) (xC (.int 2))))) (sRet (opN (g1 gTuple) (aCons (xLc (iRg1 (opC 2 (cs .f_law_draw) (aCons (xVar 0) (aCons (xC (.int 4)) aNil)))) [3] (gNm 3) xYes (opC 2 (cs .f_law_thing) (aCons (xVar 0) (aCons (op2 gSub (xVar 1) (xC (.int 1))) aNil)))) aNil))) sNil)
  (sSeq (sIf (xTest (op2 gEq (xVar 2) (xC (.int 2)))) (sSeq (sSet 4 (xC (.str "")))
  (sSeq (sFor (iRg1 (xIf (xTest (op2 gGt (opC 2 (cs .f_law_draw) (aCons (xVar 0) (aCons (xC (.int 8)) aNil))) (xC (.int 0)))) (opC 2 (cs .f_law_draw) (aCons (xVar 0) (aCons (xC (.int 6)) aNil))) (xC (.int 130)))) (gNm 3) (sSet 4 (op2 gAdd (xVar 4) (op2 gIx (xC (.str "abcdefghijklmnopqrstuvwxyz0123456789_+-*/<=!")) (opC 2 (cs .f_law_draw) (aCons (xVar 0) (aCons (xC (.int 44)) aNil)))))))
  (sRetV 4))) sNil)
  (sSeq (sSet 3 (xIf (xTest (op2 gGt (opC 2 (cs .f_law_draw) (aCons (xVar 0) (aCons (xC (.int 3)) aNil))) (xC (.int 0)))) (opC 2 (cs .f_law_draw) (aCons (xVar 0) (aCons (xC (.int 200)) aNil))) (op2 gMul (op2 gMul (opC 2 (cs .f_law_draw) (aCons (xVar 0) (aCons (xC (.int 1000000)) aNil))) (opC 2 (cs .f_law_draw) (aCons (xVar 0) (aCons (xC (.int 1000000)) aNil)))) (opC 2 (cs .f_law_draw) (aCons (xVar 0) (aCons (xC (.int 1000000)) aNil))))))
  (sRet (xIf (xTest (op2 gEq (opC 2 (cs .f_law_draw) (aCons (xVar 0) (aCons (xC (.int 2)) aNil))) (xC (.int 0)))) (xVar 3) (op2 gSub (xC (.int 0)) (xVar 3))))))))
noncomputable def b_f_law_digits (cs : Fn → Fd) : SX :=
  (sRet (xIf (xTest (op2 gLt (xVar 0) (xC (.int 128)))) (xLst (aCons (xVar 0) aNil)) (op2 gAdd (xLst (aCons (op2 gAdd (op2 gMod (opN (g1 gInt) (aCons (xVar 0) aNil)) (xC (.int 128))) (xC (.int 128))) aNil)) (opC 1 (cs .f_law_digits) (aCons (op2 gDiv (xVar 0) (xC (.int 128))) aNil)))))
noncomputable def b_f_law_write (cs : Fn → Fd) : SX :=
  (sSeq (sIf (xTru (opN (g2 gIsi) (aCons (xVar 0) (aCons (xC (.ty "tuple")) aNil)))) (sSeq (sSet 1 (op2 gAdd (xLst (aCons (xC (.int 3)) aNil)) (opC 1 (cs .f_law_digits) (aCons (opN (g1 gLen) (aCons (xVar 0) aNil)) aNil))))
  (sSeq (sFor (iV 0) (gNm 2) (sSet 1 (op2 gAdd (xVar 1) (opC 1 (cs .f_law_write) (aCons (xVar 2) aNil)))))
  (sRetV 1))) sNil)
  (sSeq (sIf (xTru (opN (g2 gIsi) (aCons (xVar 0) (aCons (xC (.ty "str")) aNil)))) (sRet (op2 gAdd (op2 gAdd (xLst (aCons (xC (.int 2)) aNil)) (opC 1 (cs .f_law_digits) (aCons (opN (g1 gLen) (aCons (xVar 0) aNil)) aNil))) (xLc (iE itemsE (xVar 0)) [3] (gNm 3) xYes (opM1 gSIndex (xC (.str "abcdefghijklmnopqrstuvwxyz0123456789_+-*/<=!")) (xVar 3))))) sNil)
  (sRet (op2 gAdd (xLst (aCons (xC (.int 1)) aNil)) (opC 1 (cs .f_law_digits) (aCons (xIf (xTest (op2 gGe (xVar 0) (xC (.int 0)))) (op2 gMul (xC (.int 2)) (xVar 0)) (op2 gSub (op2 gSub (xC (.int 0)) (op2 gMul (xC (.int 2)) (xVar 0))) (xC (.int 1)))) aNil))))))
noncomputable def b_f_law_sums (cs : Fn → Fd) : SX :=
  (sSeq (sAsg (gTupD 2 (gConsD (gNm 1) (gConsD (gNm 2) gNilD))) (xTup (aCons (xC (.int 0)) (aCons (xC (.int 0)) aNil))))
  (sSeq (sFor (iRg1 (opN (g1 gLen) (aCons (xVar 0) aNil))) (gNm 3) (sPar2 1 2 (aCons (op2 gAdd (xVar 1) (op2 gIx (xVar 0) (xVar 3))) (aCons (op2 gAdd (xVar 2) (op2 gMul (op2 gIx (xVar 0) (xVar 3)) (op2 gSub (opN (g1 gLen) (aCons (xVar 0) aNil)) (xVar 3)))) aNil))))
  (sRet (xLst (aCons (op2 gMod (opN (g1 gInt) (aCons (xVar 1) aNil)) (xC (.int 256))) (aCons (op2 gMod (opN (g1 gInt) (aCons (xVar 2) aNil)) (xC (.int 256))) aNil))))))
noncomputable def b_f_law_number (cs : Fn → Fd) : SX :=
  (sSeq (sPar3 2 3 4 (aCons (xC (.int 0)) (aCons (xC (.int 1)) (aCons (xVar 1) aNil))))
  (sSeq (sWhile (xAnd (xTest (op2 gLt (xVar 1) (opN (g1 gLen) (aCons (xVar 0) aNil)))) (xTest (op2 gGe (op2 gIx (xVar 0) (xVar 1)) (xC (.int 128))))) (sPar3 2 3 1 (aCons (op2 gAdd (xVar 2) (op2 gMul (xVar 3) (op2 gSub (op2 gIx (xVar 0) (xVar 1)) (xC (.int 128))))) (aCons (op2 gMul (xVar 3) (xC (.int 128))) (aCons (op2 gAdd (xVar 1) (xC (.int 1))) aNil)))) wN)
  (sSeq (sIf (xOr (xTest (op2 gGe (xVar 1) (opN (g1 gLen) (aCons (xVar 0) aNil)))) (xAnd (xTest (op2 gEq (op2 gIx (xVar 0) (xVar 1)) (xC (.int 0)))) (xTest (op2 gGt (xVar 1) (xVar 4))))) (sRet (xC .non)) sNil)
  (sRet (xTup (aCons (op2 gAdd (xVar 2) (op2 gMul (xVar 3) (op2 gIx (xVar 0) (xVar 1)))) (aCons (op2 gAdd (xVar 1) (xC (.int 1))) aNil)))))))
noncomputable def b_f_law_at (cs : Fn → Fd) : SX :=
  (sSeq (sIf (xOr (xTest (op2 gGe (xVar 1) (opN (g1 gLen) (aCons (xVar 0) aNil)))) (xTest (op2 gNotIn (op2 gIx (xVar 0) (xVar 1)) (xTup (aCons (xC (.int 1)) (aCons (xC (.int 2)) (aCons (xC (.int 3)) aNil))))))) (sRet (xC .non)) sNil)
  (sSeq (sSet 2 (opC 2 (cs .f_law_number) (aCons (xVar 0) (aCons (op2 gAdd (xVar 1) (xC (.int 1))) aNil))))
  (sSeq (sIf (xTest (op2 gIs (xVar 2) (xC .non))) (sRet (xC .non)) sNil)
  (sSeq (sAsg (gTupD 2 (gConsD (gNm 3) (gConsD (gNm 4) gNilD))) (xVar 2))
  (sSeq (sIf (xTest (op2 gEq (op2 gIx (xVar 0) (xVar 1)) (xC (.int 1)))) (sRet (xTup (aCons (xIf (xTest (op2 gEq (op2 gMod (opN (g1 gInt) (aCons (xVar 3) aNil)) (xC (.int 2))) (xC (.int 0)))) (op2 gDiv (xVar 3) (xC (.int 2))) (op2 gSub (xC (.int 0)) (op2 gDiv (op2 gAdd (xVar 3) (xC (.int 1))) (xC (.int 2))))) (aCons (xVar 4) aNil)))) sNil)
  (sSeq (sIf (xTest (op2 gGt (xVar 3) (opN (g1 gLen) (aCons (xVar 0) aNil)))) (sRet (xC .non)) sNil)
  (sSeq (sIf (xTest (op2 gEq (op2 gIx (xVar 0) (xVar 1)) (xC (.int 2)))) (sSeq (sSet 5 (xSl (xVar 0) (oSome (xVar 4)) (oSome (op2 gAdd (xVar 4) (xVar 3)))))
  (sSeq (sIf (xOr (xTest (op2 gLt (opN (g1 gLen) (aCons (xVar 5) aNil)) (xVar 3))) (xTest (op2 gNe (xLc (iE itemsE (xVar 5)) [6] (gNm 6) (xTest (op2 gGt (xVar 6) (xC (.int 43)))) (xVar 6)) (xLst aNil)))) (sRet (xC .non)) sNil)
  (sRet (xTup (aCons (opM1 gJoin (xC (.str "")) (xLc (iE itemsE (xVar 5)) [6] (gNm 6) xYes (op2 gIx (xC (.str "abcdefghijklmnopqrstuvwxyz0123456789_+-*/<=!")) (xVar 6)))) (aCons (op2 gAdd (xVar 4) (xVar 3)) aNil)))))) sNil)
  (sSeq (sSet 7 (xTup aNil))
  (sSeq (sFor (iRg1 (xVar 3)) (gNm 8) (sSeq (sSet 9 (opC 2 (cs .f_law_at) (aCons (xVar 0) (aCons (xVar 4) aNil))))
  (sSeq (sIf (xTest (op2 gIs (xVar 9) (xC .non))) (sRet (xC .non)) sNil)
  (sPar2 7 4 (aCons (op2 gAdd (xVar 7) (xTup (aCons (op2 gIx (xVar 9) (xC (.int 0))) aNil))) (aCons (op2 gIx (xVar 9) (xC (.int 1))) aNil))))))
  (sRet (xTup (aCons (xVar 7) (aCons (xVar 4) aNil)))))))))))))
noncomputable def b_f_law_received (cs : Fn → Fd) : SX :=
  (sSeq (sIf (xOr (xTest (op2 gLt (opN (g1 gLen) (aCons (xVar 0) aNil)) (xC (.int 2)))) (xTest (op2 gNe (opN (g1 gList) (aCons (xSl (xVar 0) (oSome (op1 gNeg (xC (.int 2)))) oNone) aNil)) (opC 1 (cs .f_law_sums) (aCons (xSl (xVar 0) oNone (oSome (op1 gNeg (xC (.int 2))))) aNil))))) (sRet (xTup (aCons (xC (.str "no")) aNil))) sNil)
  (sSeq (sSet 1 (opC 2 (cs .f_law_at) (aCons (xSl (xVar 0) oNone (oSome (op1 gNeg (xC (.int 2))))) (aCons (xC (.int 0)) aNil))))
  (sRet (xIf (xAnd (xTest (op2 gIsNot (xVar 1) (xC .non))) (xTest (op2 gEq (op2 gIx (xVar 1) (xC (.int 1))) (op2 gSub (opN (g1 gLen) (aCons (xVar 0) aNil)) (xC (.int 2)))))) (xTup (aCons (xC (.str "yes")) (aCons (op2 gIx (xVar 1) (xC (.int 0))) aNil))) (xTup (aCons (xC (.str "no")) aNil))))))
noncomputable def b_f_law (cs : Fn → Fd) : SX :=
  (sSeq (sSet 1 (xShare (opC 2 (cs .f_law_stream) (aCons (xVar 0) (aCons (xC (.int 0)) aNil)))))
  (sSeq (sSet 2 (opC 2 (cs .f_law_thing) (aCons (xVar 1) (aCons (xC (.int 5)) aNil))))
  (sSeq (sSet 3 (opC 1 (cs .f_law_write) (aCons (xVar 2) aNil)))
  (sSeq (sSet 4 (opN (g1 gTuple) (aCons (op2 gAdd (xVar 3) (opC 1 (cs .f_law_sums) (aCons (xVar 3) aNil))) aNil)))
  (sSeq (sIf (xTest (op2 gNe (xTold (cs .f_law_read) nmF (opC 1 (cs .f_sent) (aCons (xVar 2) aNil))) (xTup (aCons (xC (.int 0)) (aCons (xVar 4) aNil))))) (sRet (xC (.bl false))) sNil)
  (sSeq (sIf (xTest (op2 gNe (xTold (cs .f_law_read) nmF (opC 1 (cs .f_received) (aCons (xVar 4) aNil))) (xTup (aCons (xC (.int 0)) (aCons (xTup (aCons (xC (.str "yes")) (aCons (xVar 2) aNil))) aNil))))) (sRet (xC (.bl false))) sNil)
  (sSeq (sFor (iRg1 (xC (.int 6))) (gNm 5) (sSeq (sSet 6 (opC 2 (cs .f_law_draw) (aCons (xVar 1) (aCons (opN (g1 gLen) (aCons (xVar 4) aNil)) aNil))))
  (sSeq (sSet 7 (op2 gMod (opN (g1 gInt) (aCons (op2 gAdd (op2 gAdd (op2 gIx (xVar 4) (xVar 6)) (xC (.int 1))) (opC 2 (cs .f_law_draw) (aCons (xVar 1) (aCons (xC (.int 255)) aNil)))) aNil)) (xC (.int 256))))
  (sSeq (sSet 8 (op2 gAdd (op2 gAdd (xSl (xVar 4) oNone (oSome (xVar 6))) (xTup (aCons (xVar 7) aNil))) (xSl (xVar 4) (oSome (op2 gAdd (xVar 6) (xC (.int 1)))) oNone)))
  (sSeq (sIf (xTest (op2 gNe (xTold (cs .f_law_read) nmF (opC 1 (cs .f_received) (aCons (xVar 8) aNil))) (xTup (aCons (xC (.int 0)) (aCons (xTup (aCons (xC (.str "no")) aNil)) aNil))))) (sRet (xC (.bl false))) sNil)
  (sSeq (sSet 6 (opC 2 (cs .f_law_draw) (aCons (xVar 1) (aCons (op2 gSub (opN (g1 gLen) (aCons (xVar 4) aNil)) (xC (.int 1))) aNil))))
  (sSeq (sSet 8 (op2 gAdd (op2 gAdd (xSl (xVar 4) oNone (oSome (xVar 6))) (xTup (aCons (op2 gIx (xVar 4) (op2 gAdd (xVar 6) (xC (.int 1)))) (aCons (op2 gIx (xVar 4) (xVar 6)) aNil)))) (xSl (xVar 4) (oSome (op2 gAdd (xVar 6) (xC (.int 2)))) oNone)))
  (sSeq (sIf (xAnd (xTest (op2 gNe (op2 gIx (xVar 4) (xVar 6)) (op2 gIx (xVar 4) (op2 gAdd (xVar 6) (xC (.int 1)))))) (xTest (op2 gNe (xTold (cs .f_law_read) nmF (opC 1 (cs .f_received) (aCons (xVar 8) aNil))) (xTup (aCons (xC (.int 0)) (aCons (xTup (aCons (xC (.str "no")) aNil)) aNil)))))) (sRet (xC (.bl false))) sNil)
  (sSeq (sSet 9 (xLc (iRg1 (opC 2 (cs .f_law_draw) (aCons (xVar 1) (aCons (xC (.int 7)) aNil)))) [7] (gNm 7) xYes (op2 gIx (xTup (aCons (xC (.int 1)) (aCons (xC (.int 2)) (aCons (xC (.int 3)) (aCons (xC (.int 0)) (aCons (xC (.int 43)) (aCons (xC (.int 44)) (aCons (xC (.int 129)) (aCons (xC (.int 3)) aNil))))))))) (opC 2 (cs .f_law_draw) (aCons (xVar 1) (aCons (xC (.int 8)) aNil))))))
  (sSeq (sSet 8 (opN (g1 gTuple) (aCons (op2 gAdd (xVar 9) (opC 1 (cs .f_law_sums) (aCons (xVar 9) aNil))) aNil)))
  (sIf (xTest (op2 gNe (xTold (cs .f_law_read) nmF (opC 1 (cs .f_received) (aCons (xVar 8) aNil))) (xTup (aCons (xC (.int 0)) (aCons (opC 1 (cs .f_law_received) (aCons (xVar 8) aNil)) aNil))))) (sRet (xC (.bl false))) sNil)))))))))))
  (sSeq (sIf (xTest (op2 gNe (xTold (cs .f_law_read) nmF (opC 1 (cs .f_sent) (aCons (xTup (aCons (xVar 2) (aCons (xC (.str "aA")) aNil))) aNil))) (xTup (aCons (xC (.int 1)) (aCons (xC (.str "run")) aNil))))) (sRet (xC (.bl false))) sNil)
  (sSeq (sPar2 6 10 (aCons (opC 2 (cs .f_law_draw) (aCons (xVar 1) (aCons (opN (g1 gLen) (aCons (xVar 4) aNil)) aNil))) (aCons (op2 gIx (xTup (aCons (xC (.int 256)) (aCons (op1 gNeg (xC (.int 2))) aNil))) (opC 2 (cs .f_law_draw) (aCons (xVar 1) (aCons (xC (.int 2)) aNil)))) aNil)))
  (sSeq (sFor (iE itemsS (xTup (aCons (op2 gAdd (xTup (aCons (xC (.int 256)) aNil)) (xVar 4)) (aCons (op2 gAdd (op2 gAdd (xSl (xVar 4) oNone (oSome (xVar 6))) (xTup (aCons (xVar 10) aNil))) (xSl (xVar 4) (oSome (xVar 6)) oNone)) (aCons (op2 gAdd (op2 gAdd (xSl (xVar 4) oNone (oSome (xVar 6))) (xTup (aCons (xVar 10) aNil))) (xSl (xVar 4) (oSome (op2 gAdd (xVar 6) (xC (.int 1)))) oNone)) aNil))))) (gNm 8) (sIf (xTest (op2 gNe (xTold (cs .f_law_read) nmF (opC 1 (cs .f_received) (aCons (xVar 8) aNil))) (xTup (aCons (xC (.int 0)) (aCons (xTup (aCons (xC (.str "no")) aNil)) aNil))))) (sRet (xC (.bl false))) sNil))
  (sRet (op2 gEq (xTold (cs .f_law_read) nmF (opC 1 (cs .f_received) (aCons (xC (.str "")) aNil))) (xTup (aCons (xC (.int 0)) (aCons (xTup (aCons (xC (.str "no")) aNil)) aNil)))))))))))))))

noncomputable def bdOf : Fn → (Fn → Fd) → SX
  | .f_is_int, cs => b_f_is_int cs
  | .f_digits, cs => b_f_digits cs
  | .f_written, cs => b_f_written cs
  | .f_sums, cs => b_f_sums cs
  | .f_sent, cs => b_f_sent cs
  | .f_number_at, cs => b_f_number_at cs
  | .f_thing_at, cs => b_f_thing_at cs
  | .f_received, cs => b_f_received cs
  | .f_law_cell, cs => b_f_law_cell cs
  | .f_law_stream, cs => b_f_law_stream cs
  | .f_law_draw, cs => b_f_law_draw cs
  | .f_law_read, cs => b_f_law_read cs
  | .f_law_told, cs => fun _ _ => none
  | .f_law_thing, cs => b_f_law_thing cs
  | .f_law_digits, cs => b_f_law_digits cs
  | .f_law_write, cs => b_f_law_write cs
  | .f_law_sums, cs => b_f_law_sums cs
  | .f_law_number, cs => b_f_law_number cs
  | .f_law_at, cs => b_f_law_at cs
  | .f_law_received, cs => b_f_law_received cs
  | .f_law, cs => b_f_law cs
noncomputable def run : Nat → Fn → Fd
  | 0 => fun _ _ _ => none
  | k + 1 => fun f => denF (psOf f).length (locOf f).length (bdOf f (run k))
end Sh65
set_option Elab.async false
set_option linter.all false
set_option maxRecDepth 100000
set_option maxHeartbeats 4000000
namespace Sh65
open PySem Sh
theorem r_f_is_int (n : Nat) (r0 : R) (h : Hs) : run (n + 1) .f_is_int [r0] h = fnRes (b_f_is_int (run n) [slA r0] h) := rfl
theorem r_f_digits (n : Nat) (r0 : R) (h : Hs) : run (n + 1) .f_digits [r0] h = fnRes (b_f_digits (run n) [slA r0, .none] h) := rfl
theorem r_f_written (n : Nat) (r0 : R) (h : Hs) : run (n + 1) .f_written [r0] h = fnRes (b_f_written (run n) [slA r0, .none, .none, .none] h) := rfl
theorem r_f_sums (n : Nat) (r0 : R) (h : Hs) : run (n + 1) .f_sums [r0] h = fnRes (b_f_sums (run n) [slA r0, .none, .none, .none, .none] h) := rfl
theorem r_f_sent (n : Nat) (r0 : R) (h : Hs) : run (n + 1) .f_sent [r0] h = fnRes (b_f_sent (run n) [slA r0, .none] h) := rfl
theorem r_f_number_at (n : Nat) (r0 r1 : R) (h : Hs) : run (n + 1) .f_number_at [r0, r1] h = fnRes (b_f_number_at (run n) [slA r0, slA r1, .none, .none, .none] h) := rfl
theorem r_f_thing_at (n : Nat) (r0 r1 : R) (h : Hs) : run (n + 1) .f_thing_at [r0, r1] h = fnRes (b_f_thing_at (run n) [slA r0, slA r1, .none, .none, .none, .none, .none, .none] h) := rfl
theorem r_f_received (n : Nat) (r0 : R) (h : Hs) : run (n + 1) .f_received [r0] h = fnRes (b_f_received (run n) [slA r0, .none, .none, .none] h) := rfl
theorem r_f_law_cell (n : Nat) (r0 r1 : R) (h : Hs) : run (n + 1) .f_law_cell [r0, r1] h = fnRes (b_f_law_cell (run n) [slA r0, slA r1] h) := rfl
theorem r_f_law_stream (n : Nat) (r0 r1 : R) (h : Hs) : run (n + 1) .f_law_stream [r0, r1] h = fnRes (b_f_law_stream (run n) [slA r0, slA r1] h) := rfl
theorem r_f_law_draw (n : Nat) (r0 r1 : R) (h : Hs) : run (n + 1) .f_law_draw [r0, r1] h = fnRes (b_f_law_draw (run n) [slA r0, slA r1, .none] h) := rfl
theorem r_f_law_read (n : Nat) (r0 : R) (h : Hs) : run (n + 1) .f_law_read [r0] h = fnRes (b_f_law_read (run n) [slA r0, .none] h) := rfl
theorem r_f_law_thing (n : Nat) (r0 r1 : R) (h : Hs) : run (n + 1) .f_law_thing [r0, r1] h = fnRes (b_f_law_thing (run n) [slA r0, slA r1, .none, .none, .none] h) := rfl
theorem r_f_law_digits (n : Nat) (r0 : R) (h : Hs) : run (n + 1) .f_law_digits [r0] h = fnRes (b_f_law_digits (run n) [slA r0] h) := rfl
theorem r_f_law_write (n : Nat) (r0 : R) (h : Hs) : run (n + 1) .f_law_write [r0] h = fnRes (b_f_law_write (run n) [slA r0, .none, .none, .none] h) := rfl
theorem r_f_law_sums (n : Nat) (r0 : R) (h : Hs) : run (n + 1) .f_law_sums [r0] h = fnRes (b_f_law_sums (run n) [slA r0, .none, .none, .none] h) := rfl
theorem r_f_law_number (n : Nat) (r0 r1 : R) (h : Hs) : run (n + 1) .f_law_number [r0, r1] h = fnRes (b_f_law_number (run n) [slA r0, slA r1, .none, .none, .none] h) := rfl
theorem r_f_law_at (n : Nat) (r0 r1 : R) (h : Hs) : run (n + 1) .f_law_at [r0, r1] h = fnRes (b_f_law_at (run n) [slA r0, slA r1, .none, .none, .none, .none, .none, .none, .none, .none] h) := rfl
theorem r_f_law_received (n : Nat) (r0 : R) (h : Hs) : run (n + 1) .f_law_received [r0] h = fnRes (b_f_law_received (run n) [slA r0, .none] h) := rfl
theorem r_f_law (n : Nat) (r0 : R) (h : Hs) : run (n + 1) .f_law [r0] h = fnRes (b_f_law (run n) [slA r0, .none, .none, .none, .none, .none, .none, .none, .none, .none, .none] h) := rfl

/-! ### evaluation -/
section
variable {α β : Type}
theorem at_ok (a : α) (h : Hs) (k : α → Hs → Option (Rs β)) : andThen (some (.ok a h)) k = k a h := rfl
theorem at_exc (c : Str) (h : Hs) (k : α → Hs → Option (Rs β)) : andThen (some (.exc c h)) k = some (.exc c h) := rfl
theorem ts_ok (S : Env') (a : α) (h : Hs) (k : α → Hs → Option Out) : thenS S (some (.ok a h)) k = k a h := rfl
theorem ts_exc (S : Env') (c : Str) (h : Hs) (k : α → Hs → Option Out) : thenS S (some (.exc c h)) k = some (.exc c S h) := rfl
end
theorem gSub_e (i j : Int) (h : Hs) : gSub (.d (.int i)) (.d (.int j)) h = some (.d (.int (i - j))) := rfl
theorem gLt_e (i j : Int) (h : Hs) : gLt (.d (.int i)) (.d (.int j)) h = some (.d (.bl (decide (i < j)))) := rfl
theorem gLe_e (i j : Int) (h : Hs) : gLe (.d (.int i)) (.d (.int j)) h = some (.d (.bl (decide (i ≤ j)))) := rfl
theorem gGt_e (i j : Int) (h : Hs) : gGt (.d (.int i)) (.d (.int j)) h = some (.d (.bl (decide (j < i)))) := rfl
theorem gGe_e (i j : Int) (h : Hs) : gGe (.d (.int i)) (.d (.int j)) h = some (.d (.bl (decide (j ≤ i)))) := rfl
theorem gDiv_e {i j : Int} {h : Hs} (h1 : 0 < j) (h2 : j < 1073741824) : gDiv (.d (.int i)) (.d (.int j)) h = some (.d (.int (i / j))) := by
  show Option.map R.d (if L2.CDiv i j then some (D.int (i / j)) else none) = _
  rw [if_pos (show L2.CDiv i j from ⟨h1, h2⟩)] <;> rfl
theorem gMod_e {i j : Int} {h : Hs} (h1 : 0 < j) : gMod (.d (.int i)) (.d (.int j)) h = some (.d (.int (i % j))) := by
  show Option.map R.d (if 0 < j then some (D.int (i % j)) else none) = _
  rw [if_pos h1] <;> rfl
theorem gMul_l {i j : Int} {h : Hs} (h1 : -18446744073709551616 < i) (h2 : i < 18446744073709551616) : gMul (.d (.int i)) (.d (.int j)) h = some (.d (.int (i * j))) := if_pos (show L2.CMul i j from .inl ⟨h1, h2⟩)
theorem gMul_r {i j : Int} {h : Hs} (h1 : -18446744073709551616 < j) (h2 : j < 18446744073709551616) : gMul (.d (.int i)) (.d (.int j)) h = some (.d (.int (i * j))) := if_pos (show L2.CMul i j from .inr ⟨h1, h2⟩)
theorem gLen_tup (xs : List D) (h : Hs) : gLen (.d (.tup xs)) h = some (.d (.int xs.length)) := rfl
theorem gLen_bor (xs : List D) (h : Hs) : gLen (.bor (.lst xs)) h = some (.d (.int xs.length)) := rfl
theorem gLen_bz (xs : List D) (h : Hs) : gLen (.bor (.fz xs)) h = some (.d (.int xs.length)) := rfl
theorem gLen_new (xs : List D) (h : Hs) : gLen (.new (.lst xs)) h = some (.d (.int xs.length)) := rfl
theorem atI_nat {α : Type} (xs : List α) (j : Nat) : L2.atI xs (j : Int) = xs[j]? := by
  unfold L2.atI L2.ixN
  rw [if_pos (Int.natCast_nonneg j)]
  by_cases hj : j < xs.length
  · rw [if_pos (by omega)]; rfl
  · rw [if_neg (by omega), List.getElem?_eq_none (by omega)]; rfl
theorem gIx_tup (xs : List D) (j : Nat) (h : Hs) : gIx (.d (.tup xs)) (.d (.int (j : Int))) h = (xs[j]?).map R.d := by
  show (L2.atI xs (j : Int)).map R.d = _
  rw [atI_nat]
theorem gIx_bor (xs : List D) (j : Nat) (h : Hs) : gIx (.bor (.lst xs)) (.d (.int (j : Int))) h = (xs[j]?).map R.d := by
  show (L2.atI xs (j : Int)).map R.d = _
  rw [atI_nat]
theorem gIx_bz (xs : List D) (j : Nat) (h : Hs) : gIx (.bor (.fz xs)) (.d (.int (j : Int))) h = (xs[j]?).map R.d := by
  show (L2.atI xs (j : Int)).map R.d = _
  rw [atI_nat]
theorem eqR_of {a b : R} {h : Hs} {x y : PyData} (ha : pyR a h = some x) (hb : pyR b h = some y) (sx : SeqAt.shaped x = true) (sy : SeqAt.shaped y = true) : eqR a b h = some (PyData.eqv x y) := by
  unfold eqR
  rw [ha, hb]
  exact if_pos ⟨sx, sy⟩
theorem gEq_of {a b : R} {h : Hs} {x y : PyData} (ha : pyR a h = some x) (hb : pyR b h = some y) (sx : SeqAt.shaped x = true) (sy : SeqAt.shaped y = true) : gEq a b h = some (.d (.bl (PyData.eqv x y))) := by
  unfold gEq
  rw [eqR_of ha hb sx sy] <;> rfl
theorem gNe_of {a b : R} {h : Hs} {x y : PyData} (ha : pyR a h = some x) (hb : pyR b h = some y) (sx : SeqAt.shaped x = true) (sy : SeqAt.shaped y = true) : gNe a b h = some (.d (.bl (!PyData.eqv x y))) := by
  unfold gNe
  rw [eqR_of ha hb sx sy] <;> rfl
theorem shaped_int (i : Int) : SeqAt.shaped (.int i) = true := by simp [SeqAt.shaped, PyData.canLay0, PyData.depth]
theorem pyR_int (i : Int) (h : Hs) : pyR (.d (.int i)) h = some (.int i) := by simp only [pyR, pyD]
theorem gEq_int (i j : Int) (h : Hs) : gEq (.d (.int i)) (.d (.int j)) h = some (.d (.bl (decide (i = j)))) := by
  rw [gEq_of (pyR_int i h) (pyR_int j h) (shaped_int i) (shaped_int j), PyData.eqv]
  rfl
theorem gNe_int (i j : Int) (h : Hs) : gNe (.d (.int i)) (.d (.int j)) h = some (.d (.bl (!decide (i = j)))) := by
  rw [gNe_of (pyR_int i h) (pyR_int j h) (shaped_int i) (shaped_int j), PyData.eqv]
  rfl
theorem isi_tt (xs : List D) (h : Hs) : gIsi (.d (.tup xs)) (.d (.ty "tuple")) h = some (.d (.bl true)) := by
  show Option.map (fun k => R.d (D.bl k)) (L2.kitB "tuple" "tuple") = _
  rw [show L2.kitB "tuple" "tuple" = some true from by decide +kernel] <;> rfl
theorem isi_ts (xs : List D) (h : Hs) : gIsi (.d (.tup xs)) (.d (.ty "str")) h = some (.d (.bl false)) := by
  show Option.map (fun k => R.d (D.bl k)) (L2.kitB "tuple" "str") = _
  rw [show L2.kitB "tuple" "str" = some false from by decide +kernel] <;> rfl
theorem isi_ti (xs : List D) (h : Hs) : gIsi (.d (.tup xs)) (.d (.ty "int")) h = some (.d (.bl false)) := by
  show Option.map (fun k => R.d (D.bl k)) (L2.kitB "tuple" "int") = _
  rw [show L2.kitB "tuple" "int" = some false from by decide +kernel] <;> rfl
theorem isi_st (z : Str) (h : Hs) : gIsi (.d (.str z)) (.d (.ty "tuple")) h = some (.d (.bl false)) := by
  show Option.map (fun k => R.d (D.bl k)) (L2.kitB "str" "tuple") = _
  rw [show L2.kitB "str" "tuple" = some false from by decide +kernel] <;> rfl
theorem isi_ss (z : Str) (h : Hs) : gIsi (.d (.str z)) (.d (.ty "str")) h = some (.d (.bl true)) := by
  show Option.map (fun k => R.d (D.bl k)) (L2.kitB "str" "str") = _
  rw [show L2.kitB "str" "str" = some true from by decide +kernel] <;> rfl
theorem isi_si (z : Str) (h : Hs) : gIsi (.d (.str z)) (.d (.ty "int")) h = some (.d (.bl false)) := by
  show Option.map (fun k => R.d (D.bl k)) (L2.kitB "str" "int") = _
  rw [show L2.kitB "str" "int" = some false from by decide +kernel] <;> rfl
theorem isi_it (i : Int) (h : Hs) : gIsi (.d (.int i)) (.d (.ty "tuple")) h = some (.d (.bl false)) := by
  show Option.map (fun k => R.d (D.bl k)) (L2.kitB "int" "tuple") = _
  rw [show L2.kitB "int" "tuple" = some false from by decide +kernel] <;> rfl
theorem isi_is (i : Int) (h : Hs) : gIsi (.d (.int i)) (.d (.ty "str")) h = some (.d (.bl false)) := by
  show Option.map (fun k => R.d (D.bl k)) (L2.kitB "int" "str") = _
  rw [show L2.kitB "int" "str" = some false from by decide +kernel] <;> rfl
theorem isi_ii (i : Int) (h : Hs) : gIsi (.d (.int i)) (.d (.ty "int")) h = some (.d (.bl true)) := by
  show Option.map (fun k => R.d (D.bl k)) (L2.kitB "int" "int") = _
  rw [show L2.kitB "int" "int" = some true from by decide +kernel] <;> rfl
theorem kS : ("abcdefghijklmnopqrstuvwxyz0123456789_+-*/<=!" : Str) = k_SIGNS := rfl
theorem szl : sizeLine = 16777216 := by decide
theorem ty_int (i : Int) (h : Hs) : tyR (.d (.int i)) h = some "int" := rfl
theorem ty_str (z : Str) (h : Hs) : tyR (.d (.str z)) h = some "str" := rfl
theorem ty_tup (xs : List D) (h : Hs) : tyR (.d (.tup xs)) h = some "tuple" := rfl
theorem ty_bl (b : Bool) (h : Hs) : tyR (.d (.bl b)) h = some "bool" := rfl
theorem ty_non (h : Hs) : tyR (.d .non) h = some "NoneType" := rfl
theorem sSeq_nx {f g : SX} {S S' : Env'} {h h' : Hs} (e : f S h = some (.nx S' h')) : sSeq f g S h = g S' h' := by unfold sSeq; rw [e]
theorem sSeq_ret {f g : SX} {S : Env'} {h h' : Hs} {r : R} (e : f S h = some (.ret r h')) : sSeq f g S h = some (.ret r h') := by unfold sSeq; rw [e]
theorem sSeq_exc {f g : SX} {S S' : Env'} {h h' : Hs} {c : Str} (e : f S h = some (.exc c S' h')) : sSeq f g S h = some (.exc c S' h') := by unfold sSeq; rw [e]
abbrev I (row : List Int) : List D := row.map D.int
theorem ev_is_int (n : Nat) (d : D) (h : Hs) (T : String) (hT : tyR (.d d) h = some T) : run (n + 1) .f_is_int [.d d] h = some (.ok (.d (.bl (decide (T = "int")))) h) := by
  rw [r_f_is_int]
  unfold b_f_is_int
  simp only [hT, szl, Nat.reduceLeDiff, Int.reduceLT, Int.reduceLE, Int.reduceNeg, List.length_map, List.length_append, List.nil_append, List.cons_append, at_ok, at_exc, ts_ok, ts_exc, sSeq, sSet, sRet, sRetV, sIf, sNil, sRaise, sAug, sAppOwn, sExt, sAsg, sAsg2, sPar2, sPar3, sBrk, sFor, sSetIx, sTry, calmS, slOf, slA, retOk, fnRes, gIAdd, gICat, xVar, xC, xIf, xTest, xTru, xAnd, xOr, xNot, xAndV, xOrV, xChain, xTup, xLst, xSl, oSome, oNone, op1, op2, opN, opM1, opC, aCons, aNil, lift, g1, g2, dAll, gAdd, gLen_tup, gLen_bor, gLen_new, gLen_bz, wipeS, gIx_tup, gIx_bor, gIx_bz, kS, gEq_int, gNe_int, isi_tt, isi_ts, isi_ti, isi_st, isi_ss, isi_si, isi_it, isi_is, isi_ii, gSub_e, gDiv_e, gMod_e, gLt_e, gLe_e, gGt_e, gGe_e, gNeg, gIs, gIsNot, idR, gInt, gAbs, gTy, ty_int, ty_str, ty_tup, ty_bl, ty_non, intOf, strOf, tupOf, lstOf, seqOf, dctOf, truR, truD, truC, gNm, gNilD, gConsD, gTupD, itemsE, itemsS, itemsV, iE, iV, iRg1, iRevEn, iVs, seqV, seqE, List.getElem?_cons_zero, List.getElem?_cons_succ, List.set_cons_zero, List.set_cons_succ, List.length_cons, List.length_nil, Option.map_some, Option.map_none, if_true, decide_true, decide_false, Bool.false_eq_true, if_false, ite_true, ite_false, reduceIte, Nat.reduceAdd, reduceCtorEq, Bool.not_true, Bool.not_false]
theorem is_int_i (n : Nat) (i : Int) (h : Hs) : run (n + 1) .f_is_int [.d (.int i)] h = some (.ok (.d (.bl true)) h) := ev_is_int n _ h "int" rfl
theorem is_int_s (n : Nat) (z : Str) (h : Hs) : run (n + 1) .f_is_int [.d (.str z)] h = some (.ok (.d (.bl false)) h) := ev_is_int n _ h "str" rfl
theorem is_int_t (n : Nat) (xs : List D) (h : Hs) : run (n + 1) .f_is_int [.d (.tup xs)] h = some (.ok (.d (.bl false)) h) := ev_is_int n _ h "tuple" rfl
/-! ### numbers -/
def digs (k : Nat) : List Int := if k < 128 then [(k : Int)] else ((k % 128 + 128 : Nat) : Int) :: digs (k / 128)
theorem digs_lt {k : Nat} (h : k < 128) : digs k = [(k : Int)] := by rw [digs, if_pos h]
theorem digs_ge {k : Nat} (h : ¬ k < 128) : digs k = ((k % 128 + 128 : Nat) : Int) :: digs (k / 128) := by rw [digs, if_neg h]
theorem digs_len : ∀ (j k : Nat), k < 128 ^ (j + 1) → (digs k).length ≤ j + 1
  | 0, k, h => by rw [digs_lt h]; exact Nat.le_refl 1
  | j + 1, k, h => by
    by_cases h1 : k < 128
    · rw [digs_lt h1]; exact Nat.succ_le_succ (Nat.zero_le _)
    · rw [digs_ge h1]
      have := digs_len j (k / 128) (by rw [Nat.div_lt_iff_lt_mul (by decide)]; rw [Nat.pow_succ] at h; exact h)
      rw [List.length_cons]; omega
theorem ev_law_digits : ∀ (j n k : Nat) (h : Hs), k < 128 ^ (j + 1) → j ≤ n → j ≤ 1000 → run (n + 1) .f_law_digits [.d (.int k)] h = some (.ok (.new (.lst (I (digs k)))) h)
  | 0, n, k, h, hk, _, _ => by
    have hk' : k < 128 := hk
    rw [r_f_law_digits, digs_lt hk']
    unfold b_f_law_digits
    simp only [show ((k : Int) < 128) from by omega, szl, Nat.reduceLeDiff, Int.reduceLT, Int.reduceLE, Int.reduceNeg, List.length_map, List.length_append, List.nil_append, List.cons_append, at_ok, at_exc, ts_ok, ts_exc, sSeq, sSet, sRet, sRetV, sIf, sNil, sRaise, sAug, sAppOwn, sExt, sAsg, sAsg2, sPar2, sPar3, sBrk, sFor, sSetIx, sTry, calmS, slOf, slA, retOk, fnRes, gIAdd, gICat, xVar, xC, xIf, xTest, xTru, xAnd, xOr, xNot, xAndV, xOrV, xChain, xTup, xLst, xSl, oSome, oNone, op1, op2, opN, opM1, opC, aCons, aNil, lift, g1, g2, dAll, gAdd, gLen_tup, gLen_bor, gLen_new, gLen_bz, wipeS, gIx_tup, gIx_bor, gIx_bz, kS, gEq_int, gNe_int, isi_tt, isi_ts, isi_ti, isi_st, isi_ss, isi_si, isi_it, isi_is, isi_ii, gSub_e, gDiv_e, gMod_e, gLt_e, gLe_e, gGt_e, gGe_e, gNeg, gIs, gIsNot, idR, gInt, gAbs, gTy, ty_int, ty_str, ty_tup, ty_bl, ty_non, intOf, strOf, tupOf, lstOf, seqOf, dctOf, truR, truD, truC, gNm, gNilD, gConsD, gTupD, itemsE, itemsS, itemsV, iE, iV, iRg1, iRevEn, iVs, seqV, seqE, List.getElem?_cons_zero, List.getElem?_cons_succ, List.set_cons_zero, List.set_cons_succ, List.length_cons, List.length_nil, Option.map_some, Option.map_none, if_true, decide_true, decide_false, Bool.false_eq_true, if_false, ite_true, ite_false, reduceIte, Nat.reduceAdd, reduceCtorEq, Bool.not_true, Bool.not_false]
    rfl
  | j + 1, 0, k, h, _, hn, _ => by omega
  | j + 1, n + 1, k, h, hk, hn, hj => by
    rw [r_f_law_digits]
    unfold b_f_law_digits
    by_cases h1 : k < 128
    · rw [digs_lt h1]
      simp only [show ((k : Int) < 128) from by omega, szl, Nat.reduceLeDiff, Int.reduceLT, Int.reduceLE, Int.reduceNeg, List.length_map, List.length_append, List.nil_append, List.cons_append, at_ok, at_exc, ts_ok, ts_exc, sSeq, sSet, sRet, sRetV, sIf, sNil, sRaise, sAug, sAppOwn, sExt, sAsg, sAsg2, sPar2, sPar3, sBrk, sFor, sSetIx, sTry, calmS, slOf, slA, retOk, fnRes, gIAdd, gICat, xVar, xC, xIf, xTest, xTru, xAnd, xOr, xNot, xAndV, xOrV, xChain, xTup, xLst, xSl, oSome, oNone, op1, op2, opN, opM1, opC, aCons, aNil, lift, g1, g2, dAll, gAdd, gLen_tup, gLen_bor, gLen_new, gLen_bz, wipeS, gIx_tup, gIx_bor, gIx_bz, kS, gEq_int, gNe_int, isi_tt, isi_ts, isi_ti, isi_st, isi_ss, isi_si, isi_it, isi_is, isi_ii, gSub_e, gDiv_e, gMod_e, gLt_e, gLe_e, gGt_e, gGe_e, gNeg, gIs, gIsNot, idR, gInt, gAbs, gTy, ty_int, ty_str, ty_tup, ty_bl, ty_non, intOf, strOf, tupOf, lstOf, seqOf, dctOf, truR, truD, truC, gNm, gNilD, gConsD, gTupD, itemsE, itemsS, itemsV, iE, iV, iRg1, iRevEn, iVs, seqV, seqE, List.getElem?_cons_zero, List.getElem?_cons_succ, List.set_cons_zero, List.set_cons_succ, List.length_cons, List.length_nil, Option.map_some, Option.map_none, if_true, decide_true, decide_false, Bool.false_eq_true, if_false, ite_true, ite_false, reduceIte, Nat.reduceAdd, reduceCtorEq, Bool.not_true, Bool.not_false]
      rfl
    · rw [digs_ge h1]
      have e1 : (k : Int) / 128 = ((k / 128 : Nat) : Int) := by omega
      have hk2 : k / 128 < 128 ^ (j + 1) := by
        rw [Nat.div_lt_iff_lt_mul (by decide)]; rw [Nat.pow_succ] at hk; exact hk
      have IH := ev_law_digits j n (k / 128) h hk2 (by omega) (by omega)
      have hl := digs_len j (k / 128) hk2
      simp only [show ¬ ((k : Int) < 128) from by omega, e1, IH, show 1 + (digs (k / 128)).length ≤ 16777216 from by omega, szl, Nat.reduceLeDiff, Int.reduceLT, Int.reduceLE, Int.reduceNeg, List.length_map, List.length_append, List.nil_append, List.cons_append, at_ok, at_exc, ts_ok, ts_exc, sSeq, sSet, sRet, sRetV, sIf, sNil, sRaise, sAug, sAppOwn, sExt, sAsg, sAsg2, sPar2, sPar3, sBrk, sFor, sSetIx, sTry, calmS, slOf, slA, retOk, fnRes, gIAdd, gICat, xVar, xC, xIf, xTest, xTru, xAnd, xOr, xNot, xAndV, xOrV, xChain, xTup, xLst, xSl, oSome, oNone, op1, op2, opN, opM1, opC, aCons, aNil, lift, g1, g2, dAll, gAdd, gLen_tup, gLen_bor, gLen_new, gLen_bz, wipeS, gIx_tup, gIx_bor, gIx_bz, kS, gEq_int, gNe_int, isi_tt, isi_ts, isi_ti, isi_st, isi_ss, isi_si, isi_it, isi_is, isi_ii, gSub_e, gDiv_e, gMod_e, gLt_e, gLe_e, gGt_e, gGe_e, gNeg, gIs, gIsNot, idR, gInt, gAbs, gTy, ty_int, ty_str, ty_tup, ty_bl, ty_non, intOf, strOf, tupOf, lstOf, seqOf, dctOf, truR, truD, truC, gNm, gNilD, gConsD, gTupD, itemsE, itemsS, itemsV, iE, iV, iRg1, iRevEn, iVs, seqV, seqE, List.getElem?_cons_zero, List.getElem?_cons_succ, List.set_cons_zero, List.set_cons_succ, List.length_cons, List.length_nil, Option.map_some, Option.map_none, if_true, decide_true, decide_false, Bool.false_eq_true, if_false, ite_true, ite_false, reduceIte, Nat.reduceAdd, reduceCtorEq, Bool.not_true, Bool.not_false]
      show some (Rs.ok (R.new (Cn.lst (D.int ((k : Int) % 128 + 128) :: I (digs (k / 128))))) h) = _
      rw [show ((k : Int) % 128 + 128) = ((k % 128 + 128 : Nat) : Int) from by omega]
      rfl
end Sh65
set_option Elab.async false
set_option linter.all false
set_option maxRecDepth 100000
set_option maxHeartbeats 4000000
namespace Sh65
open PySem Sh
/-! ### digits -/
theorem dig_loop : ∀ (j n k : Nat) (made : List D) (h : Hs), k < 128 ^ (j + 1) → j < n → made.length + j ≤ 1000000 →
    ∃ (k' : Nat) (made' : List D), sWhile (xTest (op2 gGe (xVar 0) (xC (.int 128)))) (sSeq (sAppOwn 1 (op2 gAdd (op2 gMod (xVar 0) (xC (.int 128))) (xC (.int 128)))) (sSet 0 (op2 gDiv (xVar 0) (xC (.int 128))))) n [.d (.int k), .own (.lst made)] h
      = some (.nx [.d (.int k'), .own (.lst made')] h) ∧ made' ++ [D.int k'] = made ++ I (digs k)
  | _, 0, _, _, _, _, hn, _ => by omega
  | 0, n + 1, k, made, h, hk, _, _ => by
    have hk' : k < 128 := hk
    refine ⟨k, made, ?_, by rw [digs_lt hk']; rfl⟩
    unfold sWhile
    simp only [show ¬ (128 ≤ (k : Int)) from by omega, szl, Nat.reduceLeDiff, Int.reduceLT, Int.reduceLE, Int.reduceNeg, List.length_map, List.length_append, List.nil_append, List.cons_append, at_ok, at_exc, ts_ok, ts_exc, sSeq, sSet, sRet, sRetV, sIf, sNil, sRaise, sAug, sAppOwn, sExt, sAsg, sAsg2, sPar2, sPar3, sBrk, sFor, sSetIx, sTry, calmS, slOf, slA, retOk, fnRes, gIAdd, gICat, xVar, xC, xIf, xTest, xTru, xAnd, xOr, xNot, xAndV, xOrV, xChain, xTup, xLst, xSl, oSome, oNone, op1, op2, opN, opM1, opC, aCons, aNil, lift, g1, g2, dAll, gAdd, gLen_tup, gLen_bor, gLen_new, gLen_bz, wipeS, gIx_tup, gIx_bor, gIx_bz, kS, gEq_int, gNe_int, isi_tt, isi_ts, isi_ti, isi_st, isi_ss, isi_si, isi_it, isi_is, isi_ii, gSub_e, gDiv_e, gMod_e, gLt_e, gLe_e, gGt_e, gGe_e, gNeg, gIs, gIsNot, idR, gInt, gAbs, gTy, ty_int, ty_str, ty_tup, ty_bl, ty_non, intOf, strOf, tupOf, lstOf, seqOf, dctOf, truR, truD, truC, gNm, gNilD, gConsD, gTupD, itemsE, itemsS, itemsV, iE, iV, iRg1, iRevEn, iVs, seqV, seqE, List.getElem?_cons_zero, List.getElem?_cons_succ, List.set_cons_zero, List.set_cons_succ, List.length_cons, List.length_nil, Option.map_some, Option.map_none, if_true, decide_true, decide_false, Bool.false_eq_true, if_false, ite_true, ite_false, reduceIte, Nat.reduceAdd, reduceCtorEq, Bool.not_true, Bool.not_false]
  | j + 1, n + 1, k, made, h, hk, hn, hm => by
    by_cases h1 : k < 128
    · refine ⟨k, made, ?_, by rw [digs_lt h1]; rfl⟩
      unfold sWhile
      simp only [show ¬ (128 ≤ (k : Int)) from by omega, szl, Nat.reduceLeDiff, Int.reduceLT, Int.reduceLE, Int.reduceNeg, List.length_map, List.length_append, List.nil_append, List.cons_append, at_ok, at_exc, ts_ok, ts_exc, sSeq, sSet, sRet, sRetV, sIf, sNil, sRaise, sAug, sAppOwn, sExt, sAsg, sAsg2, sPar2, sPar3, sBrk, sFor, sSetIx, sTry, calmS, slOf, slA, retOk, fnRes, gIAdd, gICat, xVar, xC, xIf, xTest, xTru, xAnd, xOr, xNot, xAndV, xOrV, xChain, xTup, xLst, xSl, oSome, oNone, op1, op2, opN, opM1, opC, aCons, aNil, lift, g1, g2, dAll, gAdd, gLen_tup, gLen_bor, gLen_new, gLen_bz, wipeS, gIx_tup, gIx_bor, gIx_bz, kS, gEq_int, gNe_int, isi_tt, isi_ts, isi_ti, isi_st, isi_ss, isi_si, isi_it, isi_is, isi_ii, gSub_e, gDiv_e, gMod_e, gLt_e, gLe_e, gGt_e, gGe_e, gNeg, gIs, gIsNot, idR, gInt, gAbs, gTy, ty_int, ty_str, ty_tup, ty_bl, ty_non, intOf, strOf, tupOf, lstOf, seqOf, dctOf, truR, truD, truC, gNm, gNilD, gConsD, gTupD, itemsE, itemsS, itemsV, iE, iV, iRg1, iRevEn, iVs, seqV, seqE, List.getElem?_cons_zero, List.getElem?_cons_succ, List.set_cons_zero, List.set_cons_succ, List.length_cons, List.length_nil, Option.map_some, Option.map_none, if_true, decide_true, decide_false, Bool.false_eq_true, if_false, ite_true, ite_false, reduceIte, Nat.reduceAdd, reduceCtorEq, Bool.not_true, Bool.not_false]
    · have e1 : (k : Int) / 128 = ((k / 128 : Nat) : Int) := by omega
      have hk2 : k / 128 < 128 ^ (j + 1) := by
        rw [Nat.div_lt_iff_lt_mul (by decide)]; rw [Nat.pow_succ] at hk; exact hk
      obtain ⟨k', made', e, z⟩ := dig_loop j n (k / 128) (made ++ [D.int ((k : Int) % 128 + 128)]) h hk2 (by omega) (by rw [List.length_append]; show made.length + 1 + j ≤ _; omega)
      refine ⟨k', made', ?_, ?_⟩
      · unfold sWhile
        simp only [show (128 ≤ (k : Int)) from by omega, e1, show made.length < 16777216 from by omega, e, szl, Nat.reduceLeDiff, Int.reduceLT, Int.reduceLE, Int.reduceNeg, List.length_map, List.length_append, List.nil_append, List.cons_append, at_ok, at_exc, ts_ok, ts_exc, sSeq, sSet, sRet, sRetV, sIf, sNil, sRaise, sAug, sAppOwn, sExt, sAsg, sAsg2, sPar2, sPar3, sBrk, sFor, sSetIx, sTry, calmS, slOf, slA, retOk, fnRes, gIAdd, gICat, xVar, xC, xIf, xTest, xTru, xAnd, xOr, xNot, xAndV, xOrV, xChain, xTup, xLst, xSl, oSome, oNone, op1, op2, opN, opM1, opC, aCons, aNil, lift, g1, g2, dAll, gAdd, gLen_tup, gLen_bor, gLen_new, gLen_bz, wipeS, gIx_tup, gIx_bor, gIx_bz, kS, gEq_int, gNe_int, isi_tt, isi_ts, isi_ti, isi_st, isi_ss, isi_si, isi_it, isi_is, isi_ii, gSub_e, gDiv_e, gMod_e, gLt_e, gLe_e, gGt_e, gGe_e, gNeg, gIs, gIsNot, idR, gInt, gAbs, gTy, ty_int, ty_str, ty_tup, ty_bl, ty_non, intOf, strOf, tupOf, lstOf, seqOf, dctOf, truR, truD, truC, gNm, gNilD, gConsD, gTupD, itemsE, itemsS, itemsV, iE, iV, iRg1, iRevEn, iVs, seqV, seqE, List.getElem?_cons_zero, List.getElem?_cons_succ, List.set_cons_zero, List.set_cons_succ, List.length_cons, List.length_nil, Option.map_some, Option.map_none, if_true, decide_true, decide_false, Bool.false_eq_true, if_false, ite_true, ite_false, reduceIte, Nat.reduceAdd, reduceCtorEq, Bool.not_true, Bool.not_false]
      · rw [z, digs_ge h1, show ((k : Int) % 128 + 128) = ((k % 128 + 128 : Nat) : Int) from by omega]
        simp [I]
theorem ev_digits (j n k : Nat) (h : Hs) (hk : k < 128 ^ (j + 1)) (hj : j ≤ 1000) : run (n + 1) .f_digits [.d (.int k)] h = some (.ok (.new (.lst (I (digs k)))) h) := by
  rw [r_f_digits]
  unfold b_f_digits
  obtain ⟨k', made', e, z⟩ := dig_loop j wN k [] h hk (by unfold wN; omega) (by show 0 + j ≤ _; omega)
  have hl := congrArg List.length z
  rw [List.length_append, List.nil_append] at hl
  have hd := digs_len j k hk
  have hl2 : made'.length + 1 = (digs k).length := by rw [← List.length_map (f := D.int) (as := digs k)]; exact hl
  simp only [e, show made'.length + 1 ≤ 16777216 from by omega, szl, Nat.reduceLeDiff, Int.reduceLT, Int.reduceLE, Int.reduceNeg, List.length_map, List.length_append, List.nil_append, List.cons_append, at_ok, at_exc, ts_ok, ts_exc, sSeq, sSet, sRet, sRetV, sIf, sNil, sRaise, sAug, sAppOwn, sExt, sAsg, sAsg2, sPar2, sPar3, sBrk, sFor, sSetIx, sTry, calmS, slOf, slA, retOk, fnRes, gIAdd, gICat, xVar, xC, xIf, xTest, xTru, xAnd, xOr, xNot, xAndV, xOrV, xChain, xTup, xLst, xSl, oSome, oNone, op1, op2, opN, opM1, opC, aCons, aNil, lift, g1, g2, dAll, gAdd, gLen_tup, gLen_bor, gLen_new, gLen_bz, wipeS, gIx_tup, gIx_bor, gIx_bz, kS, gEq_int, gNe_int, isi_tt, isi_ts, isi_ti, isi_st, isi_ss, isi_si, isi_it, isi_is, isi_ii, gSub_e, gDiv_e, gMod_e, gLt_e, gLe_e, gGt_e, gGe_e, gNeg, gIs, gIsNot, idR, gInt, gAbs, gTy, ty_int, ty_str, ty_tup, ty_bl, ty_non, intOf, strOf, tupOf, lstOf, seqOf, dctOf, truR, truD, truC, gNm, gNilD, gConsD, gTupD, itemsE, itemsS, itemsV, iE, iV, iRg1, iRevEn, iVs, seqV, seqE, List.getElem?_cons_zero, List.getElem?_cons_succ, List.set_cons_zero, List.set_cons_succ, List.length_cons, List.length_nil, Option.map_some, Option.map_none, if_true, decide_true, decide_false, Bool.false_eq_true, if_false, ite_true, ite_false, reduceIte, Nat.reduceAdd, reduceCtorEq, Bool.not_true, Bool.not_false]
  rw [z]
  rfl
end Sh65
set_option Elab.async false
set_option linter.all false
set_option maxRecDepth 100000
set_option maxHeartbeats 4000000
namespace Sh65
open PySem Sh
/-! ### sums -/
def wr : Nat → List Int → Int
  | _, [] => 0
  | p, k :: ds => ((p : Int) + 1) * k + wr (p + 1) ds
def wsum : List Int → Int
  | [] => 0
  | x :: xs => x * ((xs.length : Int) + 1) + wsum xs
theorem wr_snoc : ∀ (p : Nat) (ds : List Int) (x : Int), wr p (ds ++ [x]) = wr p ds + ((p + ds.length : Nat) + 1) * x
  | p, [], x => by simp [wr]
  | p, k :: ds, x => by
    rw [List.cons_append, wr, wr, wr_snoc (p + 1) ds x, List.length_cons, show p + 1 + ds.length = p + (ds.length + 1) from by omega, Int.add_assoc]
theorem wr_rev : ∀ ds : List Int, wr 0 ds.reverse = wsum ds
  | [] => rfl
  | x :: xs => by
    rw [List.reverse_cons, wr_snoc, wr_rev xs, wsum, List.length_reverse, Nat.zero_add, Int.mul_comm x, Int.add_comm]
/-- the two sums -/
def sm (row : List Int) : List Int := [row.sum % 256, wsum row % 256]
/-- how a row stands in a slot -/
def RowS (s : Sl) (row : List Int) : Prop := s = .d (.tup (I row)) ∨ s = .bor (.lst (I row))
theorem sums_loop (s : Sl) (h : Hs) : ∀ (ds : List Int) (p : Nat) (one other : Int) (x3 x4 : Sl), p + ds.length ≤ 16777216 →
    ∃ x3' x4', forL (gTupD 2 (gConsD (gNm 3) (gConsD (gNm 4) gNilD))) (sSeq (sAug gIAdd 1 (xVar 4)) (sAug gIAdd 2 (op2 gMul (op2 gAdd (xVar 3) (xC (.int 1))) (xVar 4)))) (pairD p (I ds)) [s, .d (.int one), .d (.int other), x3, x4] h
      = some (.nx [s, .d (.int (one + ds.sum)), .d (.int (other + wr p ds)), x3', x4'] h)
  | [], p, one, other, x3, x4, _ => ⟨x3, x4, by simp [pairD, forL, wr, I]⟩
  | k :: ds, p, one, other, x3, x4, hp => by
    rw [List.length_cons] at hp
    obtain ⟨x3', x4', e⟩ := sums_loop s h ds (p + 1) (one + k) (other + ((p : Int) + 1) * k) (.d (.int p)) (.d (.int k)) (by omega)
    refine ⟨x3', x4', ?_⟩
    rw [I, List.map_cons, pairD, forL]
    simp only [gMul_l (show -18446744073709551616 < (p : Int) + 1 from by omega) (show (p : Int) + 1 < 18446744073709551616 from by omega), e, List.sum_cons, wr, szl, Nat.reduceLeDiff, Int.reduceLT, Int.reduceLE, Int.reduceNeg, List.length_map, List.length_append, List.nil_append, List.cons_append, at_ok, at_exc, ts_ok, ts_exc, sSeq, sSet, sRet, sRetV, sIf, sNil, sRaise, sAug, sAppOwn, sExt, sAsg, sAsg2, sPar2, sPar3, sBrk, sFor, sSetIx, sTry, calmS, slOf, slA, retOk, fnRes, gIAdd, gICat, xVar, xC, xIf, xTest, xTru, xAnd, xOr, xNot, xAndV, xOrV, xChain, xTup, xLst, xSl, oSome, oNone, op1, op2, opN, opM1, opC, aCons, aNil, lift, g1, g2, dAll, gAdd, gLen_tup, gLen_bor, gLen_new, gLen_bz, wipeS, gIx_tup, gIx_bor, gIx_bz, kS, gEq_int, gNe_int, isi_tt, isi_ts, isi_ti, isi_st, isi_ss, isi_si, isi_it, isi_is, isi_ii, gSub_e, gDiv_e, gMod_e, gLt_e, gLe_e, gGt_e, gGe_e, gNeg, gIs, gIsNot, idR, gInt, gAbs, gTy, ty_int, ty_str, ty_tup, ty_bl, ty_non, intOf, strOf, tupOf, lstOf, seqOf, dctOf, truR, truD, truC, gNm, gNilD, gConsD, gTupD, itemsE, itemsS, itemsV, iE, iV, iRg1, iRevEn, iVs, seqV, seqE, List.getElem?_cons_zero, List.getElem?_cons_succ, List.set_cons_zero, List.set_cons_succ, List.length_cons, List.length_nil, Option.map_some, Option.map_none, if_true, decide_true, decide_false, Bool.false_eq_true, if_false, ite_true, ite_false, reduceIte, Nat.reduceAdd, reduceCtorEq, Bool.not_true, Bool.not_false]
    rw [Int.add_assoc, Int.add_assoc]
theorem ev_sums (n : Nat) (r : R) (row : List Int) (h : Hs) (hr : RowS (slA r) row) (hl : row.length ≤ 16777216) : run (n + 1) .f_sums [r] h = some (.ok (.new (.lst (I (sm row)))) h) := by
  rw [r_f_sums]
  unfold b_f_sums
  obtain ⟨x3, x4, e⟩ := sums_loop (slA r) h row.reverse 0 0 0 .none .none (by rw [List.length_reverse]; omega)
  rw [wr_rev, List.sum_reverse, I, List.map_reverse] at e
  rcases hr with hr | hr <;> rw [hr] at e ⊢ <;> simp only [e, sm, I, List.map_cons, List.map_nil, Int.zero_add, szl, Nat.reduceLeDiff, Int.reduceLT, Int.reduceLE, Int.reduceNeg, List.length_map, List.length_append, List.nil_append, List.cons_append, at_ok, at_exc, ts_ok, ts_exc, sSeq, sSet, sRet, sRetV, sIf, sNil, sRaise, sAug, sAppOwn, sExt, sAsg, sAsg2, sPar2, sPar3, sBrk, sFor, sSetIx, sTry, calmS, slOf, slA, retOk, fnRes, gIAdd, gICat, xVar, xC, xIf, xTest, xTru, xAnd, xOr, xNot, xAndV, xOrV, xChain, xTup, xLst, xSl, oSome, oNone, op1, op2, opN, opM1, opC, aCons, aNil, lift, g1, g2, dAll, gAdd, gLen_tup, gLen_bor, gLen_new, gLen_bz, wipeS, gIx_tup, gIx_bor, gIx_bz, kS, gEq_int, gNe_int, isi_tt, isi_ts, isi_ti, isi_st, isi_ss, isi_si, isi_it, isi_is, isi_ii, gSub_e, gDiv_e, gMod_e, gLt_e, gLe_e, gGt_e, gGe_e, gNeg, gIs, gIsNot, idR, gInt, gAbs, gTy, ty_int, ty_str, ty_tup, ty_bl, ty_non, intOf, strOf, tupOf, lstOf, seqOf, dctOf, truR, truD, truC, gNm, gNilD, gConsD, gTupD, itemsE, itemsS, itemsV, iE, iV, iRg1, iRevEn, iVs, seqV, seqE, List.getElem?_cons_zero, List.getElem?_cons_succ, List.set_cons_zero, List.set_cons_succ, List.length_cons, List.length_nil, Option.map_some, Option.map_none, if_true, decide_true, decide_false, Bool.false_eq_true, if_false, ite_true, ite_false, reduceIte, Nat.reduceAdd, reduceCtorEq, Bool.not_true, Bool.not_false]
def rng (j m : Nat) : List D := (List.range' j m).map fun i => D.int (i : Nat)
theorem rng_succ (j m : Nat) : rng j (m + 1) = D.int j :: rng (j + 1) m := rfl
theorem rangeD_rng (n : Nat) : rangeD 0 (n : Int) = rng 0 n := by
  unfold rangeD rng
  rw [Int.sub_zero, Int.toNat_natCast, List.range_eq_range']
  exact List.map_congr_left fun i _ => by rw [Int.zero_add]
theorem get_mid (pre sfx : List Int) (x : Int) : (I (pre ++ x :: sfx))[pre.length]? = some (D.int x) := by simp [I]
theorem lsums_loop (s : Sl) (h : Hs) (row : List Int) (hs : RowS s row) (hl : row.length ≤ 16777216) : ∀ (sfx pre : List Int) (one other : Int) (x3 : Sl), row = pre ++ sfx →
    ∃ x3', forL (gNm 3) (sPar2 1 2 (aCons (op2 gAdd (xVar 1) (op2 gIx (xVar 0) (xVar 3))) (aCons (op2 gAdd (xVar 2) (op2 gMul (op2 gIx (xVar 0) (xVar 3)) (op2 gSub (opN (g1 gLen) (aCons (xVar 0) aNil)) (xVar 3)))) aNil))) (rng pre.length sfx.length) [s, .d (.int one), .d (.int other), x3] h
      = some (.nx [s, .d (.int (one + sfx.sum)), .d (.int (other + wsum sfx)), x3'] h)
  | [], pre, one, other, x3, _ => ⟨x3, by simp [rng, forL, wsum]⟩
  | x :: sfx, pre, one, other, x3, hrow => by
    obtain ⟨x3', e⟩ := lsums_loop s h row hs hl sfx (pre ++ [x]) (one + x) (other + x * ((sfx.length : Int) + 1)) (.d (.int (pre.length : Nat))) (by rw [hrow]; simp)
    have hlen : row.length = pre.length + (sfx.length + 1) := by rw [hrow]; simp
    rw [List.length_append] at e
    have hg := get_mid pre sfx x
    rw [← hrow] at hg
    refine ⟨x3', ?_⟩
    rw [List.length_cons, rng_succ, forL]
    have e2 : ((row.length : Int) - (pre.length : Nat)) = (sfx.length : Int) + 1 := by omega
    rcases hs with hs | hs <;> rw [hs] at e ⊢ <;>
      (simp only [hg, e2, gMul_r (show -18446744073709551616 < (sfx.length : Int) + 1 from by omega) (show (sfx.length : Int) + 1 < 18446744073709551616 from by omega), List.sum_cons, wsum, szl, Nat.reduceLeDiff, Int.reduceLT, Int.reduceLE, Int.reduceNeg, List.length_map, List.length_append, List.nil_append, List.cons_append, at_ok, at_exc, ts_ok, ts_exc, sSeq, sSet, sRet, sRetV, sIf, sNil, sRaise, sAug, sAppOwn, sExt, sAsg, sAsg2, sPar2, sPar3, sBrk, sFor, sSetIx, sTry, calmS, slOf, slA, retOk, fnRes, gIAdd, gICat, xVar, xC, xIf, xTest, xTru, xAnd, xOr, xNot, xAndV, xOrV, xChain, xTup, xLst, xSl, oSome, oNone, op1, op2, opN, opM1, opC, aCons, aNil, lift, g1, g2, dAll, gAdd, gLen_tup, gLen_bor, gLen_new, gLen_bz, wipeS, gIx_tup, gIx_bor, gIx_bz, kS, gEq_int, gNe_int, isi_tt, isi_ts, isi_ti, isi_st, isi_ss, isi_si, isi_it, isi_is, isi_ii, gSub_e, gDiv_e, gMod_e, gLt_e, gLe_e, gGt_e, gGe_e, gNeg, gIs, gIsNot, idR, gInt, gAbs, gTy, ty_int, ty_str, ty_tup, ty_bl, ty_non, intOf, strOf, tupOf, lstOf, seqOf, dctOf, truR, truD, truC, gNm, gNilD, gConsD, gTupD, itemsE, itemsS, itemsV, iE, iV, iRg1, iRevEn, iVs, seqV, seqE, List.getElem?_cons_zero, List.getElem?_cons_succ, List.set_cons_zero, List.set_cons_succ, List.length_cons, List.length_nil, Option.map_some, Option.map_none, if_true, decide_true, decide_false, Bool.false_eq_true, if_false, ite_true, ite_false, reduceIte, Nat.reduceAdd, reduceCtorEq, Bool.not_true, Bool.not_false] at e ⊢
       rw [e, Int.add_assoc, Int.add_assoc])
theorem ev_law_sums (n : Nat) (r : R) (row : List Int) (h : Hs) (hr : RowS (slA r) row) (hl : row.length ≤ 16777216) : run (n + 1) .f_law_sums [r] h = some (.ok (.new (.lst (I (sm row)))) h) := by
  rw [r_f_law_sums]
  unfold b_f_law_sums
  obtain ⟨x3, e⟩ := lsums_loop (slA r) h row hr hl row [] 0 0 .none rfl
  have hg : inRg (row.length : Int) = true := inRg_ok (by omega) (by omega)
  rw [List.length_nil, ← rangeD_rng] at e
  rcases hr with hr | hr <;> rw [hr] at e ⊢ <;> simp only [hg, e, sm, I, List.map_cons, List.map_nil, Int.zero_add, szl, Nat.reduceLeDiff, Int.reduceLT, Int.reduceLE, Int.reduceNeg, List.length_map, List.length_append, List.nil_append, List.cons_append, at_ok, at_exc, ts_ok, ts_exc, sSeq, sSet, sRet, sRetV, sIf, sNil, sRaise, sAug, sAppOwn, sExt, sAsg, sAsg2, sPar2, sPar3, sBrk, sFor, sSetIx, sTry, calmS, slOf, slA, retOk, fnRes, gIAdd, gICat, xVar, xC, xIf, xTest, xTru, xAnd, xOr, xNot, xAndV, xOrV, xChain, xTup, xLst, xSl, oSome, oNone, op1, op2, opN, opM1, opC, aCons, aNil, lift, g1, g2, dAll, gAdd, gLen_tup, gLen_bor, gLen_new, gLen_bz, wipeS, gIx_tup, gIx_bor, gIx_bz, kS, gEq_int, gNe_int, isi_tt, isi_ts, isi_ti, isi_st, isi_ss, isi_si, isi_it, isi_is, isi_ii, gSub_e, gDiv_e, gMod_e, gLt_e, gLe_e, gGt_e, gGe_e, gNeg, gIs, gIsNot, idR, gInt, gAbs, gTy, ty_int, ty_str, ty_tup, ty_bl, ty_non, intOf, strOf, tupOf, lstOf, seqOf, dctOf, truR, truD, truC, gNm, gNilD, gConsD, gTupD, itemsE, itemsS, itemsV, iE, iV, iRg1, iRevEn, iVs, seqV, seqE, List.getElem?_cons_zero, List.getElem?_cons_succ, List.set_cons_zero, List.set_cons_succ, List.length_cons, List.length_nil, Option.map_some, Option.map_none, if_true, decide_true, decide_false, Bool.false_eq_true, if_false, ite_true, ite_false, reduceIte, Nat.reduceAdd, reduceCtorEq, Bool.not_true, Bool.not_false]
end Sh65
set_option Elab.async false
set_option linter.all false
set_option maxRecDepth 100000
set_option maxHeartbeats 4000000
namespace Sh65
open PySem Sh
/-! ### the script -/
theorem ev_cell (n : Nat) (ns : List Int) (c : Cn) (hc : c = .lst (I ns) ∨ c = .fz (I ns)) (h : Hs) : ∃ v : Int, run (n + 1) .f_law_cell [.bor c, .d (.int 0)] h = some (.ok (.d (.int v)) h) := by
  cases ns with
  | nil =>
    refine ⟨0, ?_⟩
    rw [r_f_law_cell]
    unfold b_f_law_cell
    rcases hc with rfl | rfl <;> simp only [I, List.map_nil, show ¬ ((0 : Int) < ((0 : Nat) : Int)) from by decide, szl, Nat.reduceLeDiff, Int.reduceLT, Int.reduceLE, Int.reduceNeg, List.length_map, List.length_append, List.nil_append, List.cons_append, at_ok, at_exc, ts_ok, ts_exc, sSeq, sSet, sRet, sRetV, sIf, sNil, sRaise, sAug, sAppOwn, sExt, sAsg, sAsg2, sPar2, sPar3, sBrk, sFor, sSetIx, sTry, calmS, slOf, slA, retOk, fnRes, gIAdd, gICat, xVar, xC, xIf, xTest, xTru, xAnd, xOr, xNot, xAndV, xOrV, xChain, xTup, xLst, xSl, oSome, oNone, op1, op2, opN, opM1, opC, aCons, aNil, lift, g1, g2, dAll, gAdd, gLen_tup, gLen_bor, gLen_new, gLen_bz, wipeS, gIx_tup, gIx_bor, gIx_bz, kS, gEq_int, gNe_int, isi_tt, isi_ts, isi_ti, isi_st, isi_ss, isi_si, isi_it, isi_is, isi_ii, gSub_e, gDiv_e, gMod_e, gLt_e, gLe_e, gGt_e, gGe_e, gNeg, gIs, gIsNot, idR, gInt, gAbs, gTy, ty_int, ty_str, ty_tup, ty_bl, ty_non, intOf, strOf, tupOf, lstOf, seqOf, dctOf, truR, truD, truC, gNm, gNilD, gConsD, gTupD, itemsE, itemsS, itemsV, iE, iV, iRg1, iRevEn, iVs, seqV, seqE, List.getElem?_cons_zero, List.getElem?_cons_succ, List.set_cons_zero, List.set_cons_succ, List.length_cons, List.length_nil, Option.map_some, Option.map_none, if_true, decide_true, decide_false, Bool.false_eq_true, if_false, ite_true, ite_false, reduceIte, Nat.reduceAdd, reduceCtorEq, Bool.not_true, Bool.not_false]
  | cons v ns =>
    refine ⟨v, ?_⟩
    have e1 : ∀ h : Hs, gIx (.bor (.lst (D.int v :: ns.map D.int))) (.d (.int 0)) h = some (.d (.int v)) := fun h => gIx_bor _ 0 h
    have e2 : ∀ h : Hs, gIx (.bor (.fz (D.int v :: ns.map D.int))) (.d (.int 0)) h = some (.d (.int v)) := fun h => gIx_bz _ 0 h
    rw [r_f_law_cell]
    unfold b_f_law_cell
    rcases hc with rfl | rfl <;> simp only [I, List.map_cons, show ((0 : Int) < ((ns.length + 1 : Nat) : Int)) from by omega, e1, e2, szl, Nat.reduceLeDiff, Int.reduceLT, Int.reduceLE, Int.reduceNeg, List.length_map, List.length_append, List.nil_append, List.cons_append, at_ok, at_exc, ts_ok, ts_exc, sSeq, sSet, sRet, sRetV, sIf, sNil, sRaise, sAug, sAppOwn, sExt, sAsg, sAsg2, sPar2, sPar3, sBrk, sFor, sSetIx, sTry, calmS, slOf, slA, retOk, fnRes, gIAdd, gICat, xVar, xC, xIf, xTest, xTru, xAnd, xOr, xNot, xAndV, xOrV, xChain, xTup, xLst, xSl, oSome, oNone, op1, op2, opN, opM1, opC, aCons, aNil, lift, g1, g2, dAll, gAdd, gLen_tup, gLen_bor, gLen_new, gLen_bz, wipeS, gIx_tup, gIx_bor, gIx_bz, kS, gEq_int, gNe_int, isi_tt, isi_ts, isi_ti, isi_st, isi_ss, isi_si, isi_it, isi_is, isi_ii, gSub_e, gDiv_e, gMod_e, gLt_e, gLe_e, gGt_e, gGe_e, gNeg, gIs, gIsNot, idR, gInt, gAbs, gTy, ty_int, ty_str, ty_tup, ty_bl, ty_non, intOf, strOf, tupOf, lstOf, seqOf, dctOf, truR, truD, truC, gNm, gNilD, gConsD, gTupD, itemsE, itemsS, itemsV, iE, iV, iRg1, iRevEn, iVs, seqV, seqE, List.getElem?_cons_zero, List.getElem?_cons_succ, List.set_cons_zero, List.set_cons_succ, List.length_cons, List.length_nil, Option.map_some, Option.map_none, if_true, decide_true, decide_false, Bool.false_eq_true, if_false, ite_true, ite_false, reduceIte, Nat.reduceAdd, reduceCtorEq, Bool.not_true, Bool.not_false]
/-- the box -/
def B (a b : Int) : Hs := [.lst [.int a, .int b]]
theorem ev_stream (n : Nat) (ns : List Int) (c : Cn) (hc : c = .lst (I ns) ∨ c = .fz (I ns)) (h : Hs) : ∃ a b : Int, run (n + 2) .f_law_stream [.bor c, .d (.int 0)] h = some (.ok (.new (.lst [.int a, .int b])) h) := by
  obtain ⟨v, e⟩ := ev_cell n ns c hc h
  refine ⟨if v < 0 then -v else v, (if v < 0 then -v else v) % 1000003 + 7, ?_⟩
  rw [r_f_law_stream]
  unfold b_f_law_stream
  simp only [e, szl, Nat.reduceLeDiff, Int.reduceLT, Int.reduceLE, Int.reduceNeg, List.length_map, List.length_append, List.nil_append, List.cons_append, at_ok, at_exc, ts_ok, ts_exc, sSeq, sSet, sRet, sRetV, sIf, sNil, sRaise, sAug, sAppOwn, sExt, sAsg, sAsg2, sPar2, sPar3, sBrk, sFor, sSetIx, sTry, calmS, slOf, slA, retOk, fnRes, gIAdd, gICat, xVar, xC, xIf, xTest, xTru, xAnd, xOr, xNot, xAndV, xOrV, xChain, xTup, xLst, xSl, oSome, oNone, op1, op2, opN, opM1, opC, aCons, aNil, lift, g1, g2, dAll, gAdd, gLen_tup, gLen_bor, gLen_new, gLen_bz, wipeS, gIx_tup, gIx_bor, gIx_bz, kS, gEq_int, gNe_int, isi_tt, isi_ts, isi_ti, isi_st, isi_ss, isi_si, isi_it, isi_is, isi_ii, gSub_e, gDiv_e, gMod_e, gLt_e, gLe_e, gGt_e, gGe_e, gNeg, gIs, gIsNot, idR, gInt, gAbs, gTy, ty_int, ty_str, ty_tup, ty_bl, ty_non, intOf, strOf, tupOf, lstOf, seqOf, dctOf, truR, truD, truC, gNm, gNilD, gConsD, gTupD, itemsE, itemsS, itemsV, iE, iV, iRg1, iRevEn, iVs, seqV, seqE, List.getElem?_cons_zero, List.getElem?_cons_succ, List.set_cons_zero, List.set_cons_succ, List.length_cons, List.length_nil, Option.map_some, Option.map_none, if_true, decide_true, decide_false, Bool.false_eq_true, if_false, ite_true, ite_false, reduceIte, Nat.reduceAdd, reduceCtorEq, Bool.not_true, Bool.not_false]
theorem box0 (a b : Int) : gIx (.d (.ref 0)) (.d (.int 0)) (B a b) = some (.d (.int a)) := rfl
theorem box1 (a b : Int) : gIx (.d (.ref 0)) (.d (.int 1)) (B a b) = some (.d (.int b)) := rfl
theorem boxG (a b : Int) : (B a b)[0]? = some (.lst [.int a, .int b]) := rfl
theorem boxS0 (a b x : Int) : setO (.lst [.int a, .int b]) (.int 0) (.int x) = some (.lst [.int x, .int b]) := rfl
theorem boxS1 (a b x : Int) : setO (.lst [.int a, .int b]) (.int 1) (.int x) = some (.lst [.int a, .int x]) := rfl
theorem boxP (a b x y : Int) : (B a b).set 0 (.lst [.int x, .int y]) = B x y := rfl
theorem ev_draw (n : Nat) (a b m : Int) (h1 : 0 < m) (h2 : m < 1073741824) : ∃ (v : Nat) (a' b' : Int), run (n + 1) .f_law_draw [.d (.ref 0), .d (.int m)] (B a b) = some (.ok (.d (.int (v : Int))) (B a' b')) ∧ (v : Int) < m := by
  rw [r_f_law_draw]
  unfold b_f_law_draw
  by_cases ha : 0 < a
  · refine ⟨(a % m).toNat, a / m, b, ?_, ?_⟩
    · have e : (((a % m).toNat : Nat) : Int) = a % m := Int.toNat_of_nonneg (Int.emod_nonneg a (by omega))
      rw [e]
      simp only [box0, ha, gMod_e h1, gDiv_e h1 h2, boxG, boxS0, boxP, szl, Nat.reduceLeDiff, Int.reduceLT, Int.reduceLE, Int.reduceNeg, List.length_map, List.length_append, List.nil_append, List.cons_append, at_ok, at_exc, ts_ok, ts_exc, sSeq, sSet, sRet, sRetV, sIf, sNil, sRaise, sAug, sAppOwn, sExt, sAsg, sAsg2, sPar2, sPar3, sBrk, sFor, sSetIx, sTry, calmS, slOf, slA, retOk, fnRes, gIAdd, gICat, xVar, xC, xIf, xTest, xTru, xAnd, xOr, xNot, xAndV, xOrV, xChain, xTup, xLst, xSl, oSome, oNone, op1, op2, opN, opM1, opC, aCons, aNil, lift, g1, g2, dAll, gAdd, gLen_tup, gLen_bor, gLen_new, gLen_bz, wipeS, gIx_tup, gIx_bor, gIx_bz, kS, gEq_int, gNe_int, isi_tt, isi_ts, isi_ti, isi_st, isi_ss, isi_si, isi_it, isi_is, isi_ii, gSub_e, gDiv_e, gMod_e, gLt_e, gLe_e, gGt_e, gGe_e, gNeg, gIs, gIsNot, idR, gInt, gAbs, gTy, ty_int, ty_str, ty_tup, ty_bl, ty_non, intOf, strOf, tupOf, lstOf, seqOf, dctOf, truR, truD, truC, gNm, gNilD, gConsD, gTupD, itemsE, itemsS, itemsV, iE, iV, iRg1, iRevEn, iVs, seqV, seqE, List.getElem?_cons_zero, List.getElem?_cons_succ, List.set_cons_zero, List.set_cons_succ, List.length_cons, List.length_nil, Option.map_some, Option.map_none, if_true, decide_true, decide_false, Bool.false_eq_true, if_false, ite_true, ite_false, reduceIte, Nat.reduceAdd, reduceCtorEq, Bool.not_true, Bool.not_false]
    · have := Int.emod_lt_of_pos a h1
      have := Int.emod_nonneg a (show m ≠ 0 by omega)
      omega
  · refine ⟨(((b * 48271 + 12345) % 2147483647 / 64) % m).toNat, a, (b * 48271 + 12345) % 2147483647, ?_, ?_⟩
    · have e : (((((b * 48271 + 12345) % 2147483647 / 64) % m).toNat : Nat) : Int) = ((b * 48271 + 12345) % 2147483647 / 64) % m := Int.toNat_of_nonneg (Int.emod_nonneg _ (by omega))
      rw [e]
      simp only [box0, box1, ha, gMod_e h1, boxG, boxS1, boxP, gMul_r, szl, Nat.reduceLeDiff, Int.reduceLT, Int.reduceLE, Int.reduceNeg, List.length_map, List.length_append, List.nil_append, List.cons_append, at_ok, at_exc, ts_ok, ts_exc, sSeq, sSet, sRet, sRetV, sIf, sNil, sRaise, sAug, sAppOwn, sExt, sAsg, sAsg2, sPar2, sPar3, sBrk, sFor, sSetIx, sTry, calmS, slOf, slA, retOk, fnRes, gIAdd, gICat, xVar, xC, xIf, xTest, xTru, xAnd, xOr, xNot, xAndV, xOrV, xChain, xTup, xLst, xSl, oSome, oNone, op1, op2, opN, opM1, opC, aCons, aNil, lift, g1, g2, dAll, gAdd, gLen_tup, gLen_bor, gLen_new, gLen_bz, wipeS, gIx_tup, gIx_bor, gIx_bz, kS, gEq_int, gNe_int, isi_tt, isi_ts, isi_ti, isi_st, isi_ss, isi_si, isi_it, isi_is, isi_ii, gSub_e, gDiv_e, gMod_e, gLt_e, gLe_e, gGt_e, gGe_e, gNeg, gIs, gIsNot, idR, gInt, gAbs, gTy, ty_int, ty_str, ty_tup, ty_bl, ty_non, intOf, strOf, tupOf, lstOf, seqOf, dctOf, truR, truD, truC, gNm, gNilD, gConsD, gTupD, itemsE, itemsS, itemsV, iE, iV, iRg1, iRevEn, iVs, seqV, seqE, List.getElem?_cons_zero, List.getElem?_cons_succ, List.set_cons_zero, List.set_cons_succ, List.length_cons, List.length_nil, Option.map_some, Option.map_none, if_true, decide_true, decide_false, Bool.false_eq_true, if_false, ite_true, ite_false, reduceIte, Nat.reduceAdd, reduceCtorEq, Bool.not_true, Bool.not_false]
    · have := Int.emod_lt_of_pos ((b * 48271 + 12345) % 2147483647 / 64) h1
      have := Int.emod_nonneg ((b * 48271 + 12345) % 2147483647 / 64) (show m ≠ 0 by omega)
      omega
/-! ### things -/
def SG : List Nat := k_SIGNS.cps.toList
theorem SG_len : SG.length = 44 := by decide +kernel
def sgc (j : Nat) : Nat := SG.getD j 0
def txt (js : List Nat) : Str := ⟨(js.map sgc).toArray⟩
theorem txt_len (js : List Nat) : (txt js).length = js.length := by simp [txt, Str.length]
theorem txt_app (a b : List Nat) : txt a ++ txt b = txt (a ++ b) := by
  show (⟨(txt a).cps ++ (txt b).cps⟩ : Str) = _
  simp [txt]
theorem SG_get {j : Nat} (h : j < 44) : SG[j]? = some (sgc j) := by
  have : j < SG.length := by rw [SG_len]; exact h
  unfold sgc
  rw [List.getD_eq_getElem?_getD, List.getElem?_eq_getElem this]; rfl
theorem gIx_SG {j : Nat} (hj : j < 44) (h : Hs) : gIx (.d (.str k_SIGNS)) (.d (.int (j : Int))) h = some (.d (.str (txt [j]))) := by
  show (if k_SIGNS.length ≤ sizeLine then (L2.atI k_SIGNS.cps.toList (j : Int)).map fun n => R.d (.str ⟨#[n]⟩) else none) = _
  rw [if_pos (by decide +kernel), atI_nat, show k_SIGNS.cps.toList[j]? = some (sgc j) from SG_get hj]
  rfl
def Ok : Nat → D → Prop
  | 0, _ => False
  | n + 1, .int i => -1152921504606846976 < i ∧ i < 1152921504606846976
  | n + 1, .str z => ∃ js : List Nat, (∀ j ∈ js, j < 44) ∧ js.length ≤ 130 ∧ z = txt js
  | n + 1, .tup xs => xs.length ≤ 3 ∧ ∀ x ∈ xs, Ok n x
  | _ + 1, _ => False
theorem text_loop (n : Nat) (s0 s1 s2 : Sl) (hs : s0 = .d (.ref 0)) : ∀ (m p : Nat) (a b : Int) (js : List Nat) (s3 : Sl), js.length + m ≤ 130 → (∀ j ∈ js, j < 44) →
    ∃ s3' a' b' js', forL (gNm 3) (sSet 4 (op2 gAdd (xVar 4) (op2 gIx (xC (.str k_SIGNS)) (opC 2 (run (n + 1) .f_law_draw) (aCons (xVar 0) (aCons (xC (.int 44)) aNil)))))) (rng p m) [s0, s1, s2, s3, .d (.str (txt js))] (B a b)
      = some (.nx [s0, s1, s2, s3', .d (.str (txt js'))] (B a' b')) ∧ js'.length ≤ 130 ∧ ∀ j ∈ js', j < 44
  | 0, p, a, b, js, s3, hl, hj => ⟨s3, a, b, js, rfl, hl, hj⟩
  | m + 1, p, a, b, js, s3, hl, hj => by
    subst hs
    obtain ⟨v, a1, b1, e, hv⟩ := ev_draw n a b 44 (by decide) (by decide)
    have hv' : v < 44 := by omega
    obtain ⟨s3', a', b', js', e2, h1, h2⟩ := text_loop n _ s1 s2 rfl m (p + 1) a1 b1 (js ++ [v]) (.d (.int p)) (by rw [List.length_append]; show js.length + 1 + m ≤ 130; omega) (fun j hm => by
      rcases List.mem_append.mp hm with h | h
      · exact hj j h
      · rw [List.mem_singleton.mp h]; exact hv')
    refine ⟨s3', a', b', js', ?_, h1, h2⟩
    rw [rng_succ, forL]
    simp only [e, gIx_SG hv', txt_len, show js.length + 1 ≤ 16777216 from by omega, txt_app, e2, szl, Nat.reduceLeDiff, Int.reduceLT, Int.reduceLE, Int.reduceNeg, List.length_map, List.length_append, List.nil_append, List.cons_append, at_ok, at_exc, ts_ok, ts_exc, sSeq, sSet, sRet, sRetV, sIf, sNil, sRaise, sAug, sAppOwn, sExt, sAsg, sAsg2, sPar2, sPar3, sBrk, sFor, sSetIx, sTry, calmS, slOf, slA, retOk, fnRes, gIAdd, gICat, xVar, xC, xIf, xTest, xTru, xAnd, xOr, xNot, xAndV, xOrV, xChain, xTup, xLst, xSl, oSome, oNone, op1, op2, opN, opM1, opC, aCons, aNil, lift, g1, g2, dAll, gAdd, gLen_tup, gLen_bor, gLen_new, gLen_bz, wipeS, gIx_tup, gIx_bor, gIx_bz, kS, gEq_int, gNe_int, isi_tt, isi_ts, isi_ti, isi_st, isi_ss, isi_si, isi_it, isi_is, isi_ii, gSub_e, gDiv_e, gMod_e, gLt_e, gLe_e, gGt_e, gGe_e, gNeg, gIs, gIsNot, idR, gInt, gAbs, gTy, ty_int, ty_str, ty_tup, ty_bl, ty_non, intOf, strOf, tupOf, lstOf, seqOf, dctOf, truR, truD, truC, gNm, gNilD, gConsD, gTupD, itemsE, itemsS, itemsV, iE, iV, iRg1, iRevEn, iVs, seqV, seqE, List.getElem?_cons_zero, List.getElem?_cons_succ, List.set_cons_zero, List.set_cons_succ, List.length_cons, List.length_nil, Option.map_some, Option.map_none, if_true, decide_true, decide_false, Bool.false_eq_true, if_false, ite_true, ite_false, reduceIte, Nat.reduceAdd, reduceCtorEq, Bool.not_true, Bool.not_false]
end Sh65
set_option Elab.async false
set_option linter.all false
set_option maxRecDepth 100000
set_option maxHeartbeats 4000000
namespace Sh65
open PySem Sh
theorem mul3 {x y z : Int} (hx : 0 ≤ x) (hy : 0 ≤ y) (hz : 0 ≤ z) (hx2 : x < 1000000) (hy2 : y < 1000000) (hz2 : z < 1000000) : 0 ≤ x * y ∧ x * y < 1000000000000 ∧ 0 ≤ x * y * z ∧ x * y * z < 1000000000000000000 := by
  have h1 : 0 ≤ x * y := Int.mul_nonneg hx hy
  have h2 : x * y ≤ 999999 * 999999 := Int.mul_le_mul (by omega) (by omega) hy (by omega)
  have h3 : 0 ≤ x * y * z := Int.mul_nonneg h1 hz
  have h4 : x * y * z ≤ 999998000001 * 999999 := Int.mul_le_mul (by omega) (by omega) hz (by omega)
  exact ⟨h1, by omega, h3, by omega⟩
theorem thing_list (F : Fd) (n : Nat) (s1 s2 s4 : Sl) (deep : Int) (hs1 : s1 = .d (.int deep)) (hF : ∀ a b, ∃ d a' b', F [.d (.ref 0), .d (.int (deep - 1))] (B a b) = some (.ok (.d d) (B a' b')) ∧ Ok n d) : ∀ (m p q : Nat) (a b : Int), q + m ≤ 1000 →
    ∃ ds a' b', lcL (gNm 3) xYes (opC 2 F (aCons (xVar 0) (aCons (op2 gSub (xVar 1) (xC (.int 1))) aNil))) [.d (.ref 0), s1, s2, .none, s4] (rng p m) q (B a b) = some (ds, B a' b') ∧ ds.length = m ∧ ∀ d ∈ ds, Ok n d
  | 0, p, q, a, b, _ => ⟨[], a, b, rfl, rfl, fun d h => by cases h⟩
  | m + 1, p, q, a, b, hq => by
    subst hs1
    obtain ⟨d, a1, b1, e, hd⟩ := hF a b
    obtain ⟨ds, a', b', e2, hl, hds⟩ := thing_list F n _ s2 s4 deep rfl hF m (p + 1) (q + 1) a1 b1 (by omega)
    refine ⟨d :: ds, a', b', ?_, by rw [List.length_cons, hl], fun x hx => ?_⟩
    · rw [rng_succ, lcL]
      simp only [xYes, e, show q < 16777216 from by omega, e2, szl, Nat.reduceLeDiff, Int.reduceLT, Int.reduceLE, Int.reduceNeg, List.length_map, List.length_append, List.nil_append, List.cons_append, at_ok, at_exc, ts_ok, ts_exc, sSeq, sSet, sRet, sRetV, sIf, sNil, sRaise, sAug, sAppOwn, sExt, sAsg, sAsg2, sPar2, sPar3, sBrk, sFor, sSetIx, sTry, calmS, slOf, slA, retOk, fnRes, gIAdd, gICat, xVar, xC, xIf, xTest, xTru, xAnd, xOr, xNot, xAndV, xOrV, xChain, xTup, xLst, xSl, oSome, oNone, op1, op2, opN, opM1, opC, aCons, aNil, lift, g1, g2, dAll, gAdd, gLen_tup, gLen_bor, gLen_new, gLen_bz, wipeS, gIx_tup, gIx_bor, gIx_bz, kS, gEq_int, gNe_int, isi_tt, isi_ts, isi_ti, isi_st, isi_ss, isi_si, isi_it, isi_is, isi_ii, gSub_e, gDiv_e, gMod_e, gLt_e, gLe_e, gGt_e, gGe_e, gNeg, gIs, gIsNot, idR, gInt, gAbs, gTy, ty_int, ty_str, ty_tup, ty_bl, ty_non, intOf, strOf, tupOf, lstOf, seqOf, dctOf, truR, truD, truC, gNm, gNilD, gConsD, gTupD, itemsE, itemsS, itemsV, iE, iV, iRg1, iRevEn, iVs, seqV, seqE, List.getElem?_cons_zero, List.getElem?_cons_succ, List.set_cons_zero, List.set_cons_succ, List.length_cons, List.length_nil, Option.map_some, Option.map_none, if_true, decide_true, decide_false, Bool.false_eq_true, if_false, ite_true, ite_false, reduceIte, Nat.reduceAdd, reduceCtorEq, Bool.not_true, Bool.not_false]
    · rcases List.mem_cons.mp hx with h | h
      · rw [h]; exact hd
      · exact hds x h
theorem ev_thing : ∀ (deep n : Nat) (a b : Int), deep + 1 ≤ n → ∃ d a' b', run (n + 1) .f_law_thing [.d (.ref 0), .d (.int deep)] (B a b) = some (.ok (.d d) (B a' b')) ∧ Ok (deep + 1) d := by
  intro deep
  induction deep with
  | zero =>
    intro n a b hn
    obtain ⟨n, rfl⟩ : ∃ k, n = k + 1 := ⟨n - 1, by omega⟩
    exact ev_thing_step 0 n (fun h => absurd h (by decide)) a b
  | succ deep IH =>
    intro n a b hn
    obtain ⟨n, rfl⟩ : ∃ k, n = k + 1 := ⟨n - 1, by omega⟩
    refine ev_thing_step (deep + 1) n (fun _ a b => ?_) a b
    have e : ((deep + 1 : Nat) : Int) - 1 = (deep : Int) := by omega
    rw [e]
    exact IH n a b (by omega)
where
  ev_thing_step (deep n : Nat) (hF : 0 < deep → ∀ a b, ∃ d a' b', run (n + 1) .f_law_thing [.d (.ref 0), .d (.int ((deep : Int) - 1))] (B a b) = some (.ok (.d d) (B a' b')) ∧ Ok deep d) (a b : Int) :
      ∃ d a' b', run (n + 2) .f_law_thing [.d (.ref 0), .d (.int deep)] (B a b) = some (.ok (.d d) (B a' b')) ∧ Ok (deep + 1) d := by
    obtain ⟨pick, a1, b1, e1, hp⟩ := ev_draw n a b 5 (by decide) (by decide)
    rw [r_f_law_thing]
    unfold b_f_law_thing
    have st1 : ∀ g : SX, sSeq (sSet 2 (opC 2 (run (n + 1) .f_law_draw) (aCons (xVar 0) (aCons (xC (.int 5)) aNil)))) g [.d (.ref 0), .d (.int deep), .none, .none, .none] (B a b) = g [.d (.ref 0), .d (.int deep), .d (.int pick), .none, .none] (B a1 b1) := fun g => sSeq_nx (by simp only [e1, szl, Nat.reduceLeDiff, Int.reduceLT, Int.reduceLE, Int.reduceNeg, List.length_map, List.length_append, List.nil_append, List.cons_append, at_ok, at_exc, ts_ok, ts_exc, sSeq, sSet, sRet, sRetV, sIf, sNil, sRaise, sAug, sAppOwn, sExt, sAsg, sAsg2, sPar2, sPar3, sBrk, sFor, sSetIx, sTry, calmS, slOf, slA, retOk, fnRes, gIAdd, gICat, xVar, xC, xIf, xTest, xTru, xAnd, xOr, xNot, xAndV, xOrV, xChain, xTup, xLst, xSl, oSome, oNone, op1, op2, opN, opM1, opC, aCons, aNil, lift, g1, g2, dAll, gAdd, gLen_tup, gLen_bor, gLen_new, gLen_bz, wipeS, gIx_tup, gIx_bor, gIx_bz, kS, gEq_int, gNe_int, isi_tt, isi_ts, isi_ti, isi_st, isi_ss, isi_si, isi_it, isi_is, isi_ii, gSub_e, gDiv_e, gMod_e, gLt_e, gLe_e, gGt_e, gGe_e, gNeg, gIs, gIsNot, idR, gInt, gAbs, gTy, ty_int, ty_str, ty_tup, ty_bl, ty_non, intOf, strOf, tupOf, lstOf, seqOf, dctOf, truR, truD, truC, gNm, gNilD, gConsD, gTupD, itemsE, itemsS, itemsV, iE, iV, iRg1, iRevEn, iVs, seqV, seqE, List.getElem?_cons_zero, List.getElem?_cons_succ, List.set_cons_zero, List.set_cons_succ, List.length_cons, List.length_nil, Option.map_some, Option.map_none, if_true, decide_true, decide_false, Bool.false_eq_true, if_false, ite_true, ite_false, reduceIte, Nat.reduceAdd, reduceCtorEq, Bool.not_true, Bool.not_false])
    have sl : ([slA (.d (.ref 0)), slA (.d (.int deep)), .none, .none, .none] : Env') = [.d (.ref 0), .d (.int deep), .none, .none, .none] := rfl
    rw [sl, st1]
    by_cases hc : 0 < deep ∧ pick < 2
    · obtain ⟨m, a2, b2, e2, hm⟩ := ev_draw n a1 b1 4 (by decide) (by decide)
      obtain ⟨ds, a3, b3, e3, hl, hds⟩ := thing_list (run (n + 1) .f_law_thing) deep (.d (.int deep)) (.d (.int pick)) .none deep rfl (hF hc.1) m 0 0 a2 b2 (by omega)
      refine ⟨.tup ds, a3, b3, ?_, ?_, hds⟩
      · simp only [show (0 : Int) < (deep : Int) from by omega, show (pick : Int) < 2 from by omega, e2, inRg_ok (n := (m : Int)) (by omega) (by omega), rangeD_rng, xLc, e3, gTuple, szl, Nat.reduceLeDiff, Int.reduceLT, Int.reduceLE, Int.reduceNeg, List.length_map, List.length_append, List.nil_append, List.cons_append, at_ok, at_exc, ts_ok, ts_exc, sSeq, sSet, sRet, sRetV, sIf, sNil, sRaise, sAug, sAppOwn, sExt, sAsg, sAsg2, sPar2, sPar3, sBrk, sFor, sSetIx, sTry, calmS, slOf, slA, retOk, fnRes, gIAdd, gICat, xVar, xC, xIf, xTest, xTru, xAnd, xOr, xNot, xAndV, xOrV, xChain, xTup, xLst, xSl, oSome, oNone, op1, op2, opN, opM1, opC, aCons, aNil, lift, g1, g2, dAll, gAdd, gLen_tup, gLen_bor, gLen_new, gLen_bz, wipeS, gIx_tup, gIx_bor, gIx_bz, kS, gEq_int, gNe_int, isi_tt, isi_ts, isi_ti, isi_st, isi_ss, isi_si, isi_it, isi_is, isi_ii, gSub_e, gDiv_e, gMod_e, gLt_e, gLe_e, gGt_e, gGe_e, gNeg, gIs, gIsNot, idR, gInt, gAbs, gTy, ty_int, ty_str, ty_tup, ty_bl, ty_non, intOf, strOf, tupOf, lstOf, seqOf, dctOf, truR, truD, truC, gNm, gNilD, gConsD, gTupD, itemsE, itemsS, itemsV, iE, iV, iRg1, iRevEn, iVs, seqV, seqE, List.getElem?_cons_zero, List.getElem?_cons_succ, List.set_cons_zero, List.set_cons_succ, List.length_cons, List.length_nil, Option.map_some, Option.map_none, if_true, decide_true, decide_false, Bool.false_eq_true, if_false, ite_true, ite_false, reduceIte, Nat.reduceAdd, reduceCtorEq, Bool.not_true, Bool.not_false]
      · omega
    · have st2 : ∀ f g : SX, sSeq (sIf (xAnd (xTest (op2 gGt (xVar 1) (xC (.int 0)))) (xTest (op2 gLt (xVar 2) (xC (.int 2))))) f sNil) g [.d (.ref 0), .d (.int deep), .d (.int pick), .none, .none] (B a1 b1) = g [.d (.ref 0), .d (.int deep), .d (.int pick), .none, .none] (B a1 b1) := fun f g => sSeq_nx (by
        by_cases hd : 0 < deep
        · simp only [show (0 : Int) < (deep : Int) from by omega, show ¬ ((pick : Int) < 2) from by omega, szl, Nat.reduceLeDiff, Int.reduceLT, Int.reduceLE, Int.reduceNeg, List.length_map, List.length_append, List.nil_append, List.cons_append, at_ok, at_exc, ts_ok, ts_exc, sSeq, sSet, sRet, sRetV, sIf, sNil, sRaise, sAug, sAppOwn, sExt, sAsg, sAsg2, sPar2, sPar3, sBrk, sFor, sSetIx, sTry, calmS, slOf, slA, retOk, fnRes, gIAdd, gICat, xVar, xC, xIf, xTest, xTru, xAnd, xOr, xNot, xAndV, xOrV, xChain, xTup, xLst, xSl, oSome, oNone, op1, op2, opN, opM1, opC, aCons, aNil, lift, g1, g2, dAll, gAdd, gLen_tup, gLen_bor, gLen_new, gLen_bz, wipeS, gIx_tup, gIx_bor, gIx_bz, kS, gEq_int, gNe_int, isi_tt, isi_ts, isi_ti, isi_st, isi_ss, isi_si, isi_it, isi_is, isi_ii, gSub_e, gDiv_e, gMod_e, gLt_e, gLe_e, gGt_e, gGe_e, gNeg, gIs, gIsNot, idR, gInt, gAbs, gTy, ty_int, ty_str, ty_tup, ty_bl, ty_non, intOf, strOf, tupOf, lstOf, seqOf, dctOf, truR, truD, truC, gNm, gNilD, gConsD, gTupD, itemsE, itemsS, itemsV, iE, iV, iRg1, iRevEn, iVs, seqV, seqE, List.getElem?_cons_zero, List.getElem?_cons_succ, List.set_cons_zero, List.set_cons_succ, List.length_cons, List.length_nil, Option.map_some, Option.map_none, if_true, decide_true, decide_false, Bool.false_eq_true, if_false, ite_true, ite_false, reduceIte, Nat.reduceAdd, reduceCtorEq, Bool.not_true, Bool.not_false]
        · simp only [show ¬ ((0 : Int) < (deep : Int)) from by omega, szl, Nat.reduceLeDiff, Int.reduceLT, Int.reduceLE, Int.reduceNeg, List.length_map, List.length_append, List.nil_append, List.cons_append, at_ok, at_exc, ts_ok, ts_exc, sSeq, sSet, sRet, sRetV, sIf, sNil, sRaise, sAug, sAppOwn, sExt, sAsg, sAsg2, sPar2, sPar3, sBrk, sFor, sSetIx, sTry, calmS, slOf, slA, retOk, fnRes, gIAdd, gICat, xVar, xC, xIf, xTest, xTru, xAnd, xOr, xNot, xAndV, xOrV, xChain, xTup, xLst, xSl, oSome, oNone, op1, op2, opN, opM1, opC, aCons, aNil, lift, g1, g2, dAll, gAdd, gLen_tup, gLen_bor, gLen_new, gLen_bz, wipeS, gIx_tup, gIx_bor, gIx_bz, kS, gEq_int, gNe_int, isi_tt, isi_ts, isi_ti, isi_st, isi_ss, isi_si, isi_it, isi_is, isi_ii, gSub_e, gDiv_e, gMod_e, gLt_e, gLe_e, gGt_e, gGe_e, gNeg, gIs, gIsNot, idR, gInt, gAbs, gTy, ty_int, ty_str, ty_tup, ty_bl, ty_non, intOf, strOf, tupOf, lstOf, seqOf, dctOf, truR, truD, truC, gNm, gNilD, gConsD, gTupD, itemsE, itemsS, itemsV, iE, iV, iRg1, iRevEn, iVs, seqV, seqE, List.getElem?_cons_zero, List.getElem?_cons_succ, List.set_cons_zero, List.set_cons_succ, List.length_cons, List.length_nil, Option.map_some, Option.map_none, if_true, decide_true, decide_false, Bool.false_eq_true, if_false, ite_true, ite_false, reduceIte, Nat.reduceAdd, reduceCtorEq, Bool.not_true, Bool.not_false])
      rw [st2]
      by_cases h2 : pick = 2
      · subst h2
        obtain ⟨v8, a2, b2, e2, hv8⟩ := ev_draw n a1 b1 8 (by decide) (by decide)
        have tx : ∃ s3 a4 b4 js, sFor (iRg1 (xIf (xTest (op2 gGt (opC 2 (run (n + 1) .f_law_draw) (aCons (xVar 0) (aCons (xC (.int 8)) aNil))) (xC (.int 0)))) (opC 2 (run (n + 1) .f_law_draw) (aCons (xVar 0) (aCons (xC (.int 6)) aNil))) (xC (.int 130)))) (gNm 3) (sSet 4 (op2 gAdd (xVar 4) (op2 gIx (xC (.str k_SIGNS)) (opC 2 (run (n + 1) .f_law_draw) (aCons (xVar 0) (aCons (xC (.int 44)) aNil)))))) [.d (.ref 0), .d (.int deep), .d (.int 2), .none, .d (.str (txt []))] (B a1 b1)
            = some (.nx [.d (.ref 0), .d (.int deep), .d (.int 2), s3, .d (.str (txt js))] (B a4 b4)) ∧ js.length ≤ 130 ∧ ∀ j ∈ js, j < 44 := by
          by_cases h8 : 0 < v8
          · obtain ⟨m, a3, b3, e3, hm⟩ := ev_draw n a2 b2 6 (by decide) (by decide)
            obtain ⟨s3, a4, b4, js, e4, hl, hj⟩ := text_loop n (.d (.ref 0)) (.d (.int deep)) (.d (.int 2)) rfl m 0 a3 b3 [] .none (by rw [List.length_nil]; omega) (fun j h => by cases h)
            refine ⟨s3, a4, b4, js, ?_, hl, hj⟩
            rw [← e4]
            unfold sFor iRg1
            simp only [e2, show (0 : Int) < (v8 : Int) from by omega, e3, inRg_ok (n := (m : Int)) (by omega) (by omega), rangeD_rng, szl, Nat.reduceLeDiff, Int.reduceLT, Int.reduceLE, Int.reduceNeg, List.length_map, List.length_append, List.nil_append, List.cons_append, at_ok, at_exc, ts_ok, ts_exc, sSeq, sSet, sRet, sRetV, sIf, sNil, sRaise, sAug, sAppOwn, sExt, sAsg, sAsg2, sPar2, sPar3, sBrk, sFor, sSetIx, sTry, calmS, slOf, slA, retOk, fnRes, gIAdd, gICat, xVar, xC, xIf, xTest, xTru, xAnd, xOr, xNot, xAndV, xOrV, xChain, xTup, xLst, xSl, oSome, oNone, op1, op2, opN, opM1, opC, aCons, aNil, lift, g1, g2, dAll, gAdd, gLen_tup, gLen_bor, gLen_new, gLen_bz, wipeS, gIx_tup, gIx_bor, gIx_bz, kS, gEq_int, gNe_int, isi_tt, isi_ts, isi_ti, isi_st, isi_ss, isi_si, isi_it, isi_is, isi_ii, gSub_e, gDiv_e, gMod_e, gLt_e, gLe_e, gGt_e, gGe_e, gNeg, gIs, gIsNot, idR, gInt, gAbs, gTy, ty_int, ty_str, ty_tup, ty_bl, ty_non, intOf, strOf, tupOf, lstOf, seqOf, dctOf, truR, truD, truC, gNm, gNilD, gConsD, gTupD, itemsE, itemsS, itemsV, iE, iV, iRg1, iRevEn, iVs, seqV, seqE, List.getElem?_cons_zero, List.getElem?_cons_succ, List.set_cons_zero, List.set_cons_succ, List.length_cons, List.length_nil, Option.map_some, Option.map_none, if_true, decide_true, decide_false, Bool.false_eq_true, if_false, ite_true, ite_false, reduceIte, Nat.reduceAdd, reduceCtorEq, Bool.not_true, Bool.not_false]
          · obtain ⟨s3, a4, b4, js, e4, hl, hj⟩ := text_loop n (.d (.ref 0)) (.d (.int deep)) (.d (.int 2)) rfl 130 0 a2 b2 [] .none (by decide) (fun j h => by cases h)
            refine ⟨s3, a4, b4, js, ?_, hl, hj⟩
            rw [← e4]
            unfold sFor iRg1
            simp only [e2, show ¬ ((0 : Int) < (v8 : Int)) from by omega, inRg_ok (n := 130) (by decide) (by decide), show rangeD 0 130 = rng 0 130 from rangeD_rng 130, szl, Nat.reduceLeDiff, Int.reduceLT, Int.reduceLE, Int.reduceNeg, List.length_map, List.length_append, List.nil_append, List.cons_append, at_ok, at_exc, ts_ok, ts_exc, sSeq, sSet, sRet, sRetV, sIf, sNil, sRaise, sAug, sAppOwn, sExt, sAsg, sAsg2, sPar2, sPar3, sBrk, sFor, sSetIx, sTry, calmS, slOf, slA, retOk, fnRes, gIAdd, gICat, xVar, xC, xIf, xTest, xTru, xAnd, xOr, xNot, xAndV, xOrV, xChain, xTup, xLst, xSl, oSome, oNone, op1, op2, opN, opM1, opC, aCons, aNil, lift, g1, g2, dAll, gAdd, gLen_tup, gLen_bor, gLen_new, gLen_bz, wipeS, gIx_tup, gIx_bor, gIx_bz, kS, gEq_int, gNe_int, isi_tt, isi_ts, isi_ti, isi_st, isi_ss, isi_si, isi_it, isi_is, isi_ii, gSub_e, gDiv_e, gMod_e, gLt_e, gLe_e, gGt_e, gGe_e, gNeg, gIs, gIsNot, idR, gInt, gAbs, gTy, ty_int, ty_str, ty_tup, ty_bl, ty_non, intOf, strOf, tupOf, lstOf, seqOf, dctOf, truR, truD, truC, gNm, gNilD, gConsD, gTupD, itemsE, itemsS, itemsV, iE, iV, iRg1, iRevEn, iVs, seqV, seqE, List.getElem?_cons_zero, List.getElem?_cons_succ, List.set_cons_zero, List.set_cons_succ, List.length_cons, List.length_nil, Option.map_some, Option.map_none, if_true, decide_true, decide_false, Bool.false_eq_true, if_false, ite_true, ite_false, reduceIte, Nat.reduceAdd, reduceCtorEq, Bool.not_true, Bool.not_false]
        obtain ⟨s3, a4, b4, js, e4, hl, hj⟩ := tx
        refine ⟨.str (txt js), a4, b4, ?_, js, hj, hl, rfl⟩
        refine congrArg fnRes (sSeq_ret (r := .d (.str (txt js))) (h' := B a4 b4) ?_)
        have e5 : ∀ f g : SX, sIf (xTest (op2 gEq (xVar 2) (xC (.int 2)))) f g [.d (.ref 0), .d (.int deep), .d (.int 2), .none, .none] (B a1 b1) = f [.d (.ref 0), .d (.int deep), .d (.int 2), .none, .none] (B a1 b1) := fun f g => by simp only [szl, Nat.reduceLeDiff, Int.reduceLT, Int.reduceLE, Int.reduceNeg, List.length_map, List.length_append, List.nil_append, List.cons_append, at_ok, at_exc, ts_ok, ts_exc, sSeq, sSet, sRet, sRetV, sIf, sNil, sRaise, sAug, sAppOwn, sExt, sAsg, sAsg2, sPar2, sPar3, sBrk, sFor, sSetIx, sTry, calmS, slOf, slA, retOk, fnRes, gIAdd, gICat, xVar, xC, xIf, xTest, xTru, xAnd, xOr, xNot, xAndV, xOrV, xChain, xTup, xLst, xSl, oSome, oNone, op1, op2, opN, opM1, opC, aCons, aNil, lift, g1, g2, dAll, gAdd, gLen_tup, gLen_bor, gLen_new, gLen_bz, wipeS, gIx_tup, gIx_bor, gIx_bz, kS, gEq_int, gNe_int, isi_tt, isi_ts, isi_ti, isi_st, isi_ss, isi_si, isi_it, isi_is, isi_ii, gSub_e, gDiv_e, gMod_e, gLt_e, gLe_e, gGt_e, gGe_e, gNeg, gIs, gIsNot, idR, gInt, gAbs, gTy, ty_int, ty_str, ty_tup, ty_bl, ty_non, intOf, strOf, tupOf, lstOf, seqOf, dctOf, truR, truD, truC, gNm, gNilD, gConsD, gTupD, itemsE, itemsS, itemsV, iE, iV, iRg1, iRevEn, iVs, seqV, seqE, List.getElem?_cons_zero, List.getElem?_cons_succ, List.set_cons_zero, List.set_cons_succ, List.length_cons, List.length_nil, Option.map_some, Option.map_none, if_true, decide_true, decide_false, Bool.false_eq_true, if_false, ite_true, ite_false, reduceIte, Nat.reduceAdd, reduceCtorEq, Bool.not_true, Bool.not_false]
        refine (e5 _ _).trans ?_
        have e6 : ∀ g : SX, sSeq (sSet 4 (xC (.str ""))) g [.d (.ref 0), .d (.int deep), .d (.int 2), .none, .none] (B a1 b1) = g [.d (.ref 0), .d (.int deep), .d (.int 2), .none, .d (.str (txt []))] (B a1 b1) := fun g => sSeq_nx (by simp only [szl, Nat.reduceLeDiff, Int.reduceLT, Int.reduceLE, Int.reduceNeg, List.length_map, List.length_append, List.nil_append, List.cons_append, at_ok, at_exc, ts_ok, ts_exc, sSeq, sSet, sRet, sRetV, sIf, sNil, sRaise, sAug, sAppOwn, sExt, sAsg, sAsg2, sPar2, sPar3, sBrk, sFor, sSetIx, sTry, calmS, slOf, slA, retOk, fnRes, gIAdd, gICat, xVar, xC, xIf, xTest, xTru, xAnd, xOr, xNot, xAndV, xOrV, xChain, xTup, xLst, xSl, oSome, oNone, op1, op2, opN, opM1, opC, aCons, aNil, lift, g1, g2, dAll, gAdd, gLen_tup, gLen_bor, gLen_new, gLen_bz, wipeS, gIx_tup, gIx_bor, gIx_bz, kS, gEq_int, gNe_int, isi_tt, isi_ts, isi_ti, isi_st, isi_ss, isi_si, isi_it, isi_is, isi_ii, gSub_e, gDiv_e, gMod_e, gLt_e, gLe_e, gGt_e, gGe_e, gNeg, gIs, gIsNot, idR, gInt, gAbs, gTy, ty_int, ty_str, ty_tup, ty_bl, ty_non, intOf, strOf, tupOf, lstOf, seqOf, dctOf, truR, truD, truC, gNm, gNilD, gConsD, gTupD, itemsE, itemsS, itemsV, iE, iV, iRg1, iRevEn, iVs, seqV, seqE, List.getElem?_cons_zero, List.getElem?_cons_succ, List.set_cons_zero, List.set_cons_succ, List.length_cons, List.length_nil, Option.map_some, Option.map_none, if_true, decide_true, decide_false, Bool.false_eq_true, if_false, ite_true, ite_false, reduceIte, Nat.reduceAdd, reduceCtorEq, Bool.not_true, Bool.not_false]; rfl)
        refine (e6 _).trans ?_
        refine (sSeq_nx e4).trans ?_
        rfl
      · have st3 : ∀ f g : SX, sSeq (sIf (xTest (op2 gEq (xVar 2) (xC (.int 2)))) f sNil) g [.d (.ref 0), .d (.int deep), .d (.int pick), .none, .none] (B a1 b1) = g [.d (.ref 0), .d (.int deep), .d (.int pick), .none, .none] (B a1 b1) := fun f g => sSeq_nx (by simp only [show ¬ ((pick : Int) = 2) from by omega, szl, Nat.reduceLeDiff, Int.reduceLT, Int.reduceLE, Int.reduceNeg, List.length_map, List.length_append, List.nil_append, List.cons_append, at_ok, at_exc, ts_ok, ts_exc, sSeq, sSet, sRet, sRetV, sIf, sNil, sRaise, sAug, sAppOwn, sExt, sAsg, sAsg2, sPar2, sPar3, sBrk, sFor, sSetIx, sTry, calmS, slOf, slA, retOk, fnRes, gIAdd, gICat, xVar, xC, xIf, xTest, xTru, xAnd, xOr, xNot, xAndV, xOrV, xChain, xTup, xLst, xSl, oSome, oNone, op1, op2, opN, opM1, opC, aCons, aNil, lift, g1, g2, dAll, gAdd, gLen_tup, gLen_bor, gLen_new, gLen_bz, wipeS, gIx_tup, gIx_bor, gIx_bz, kS, gEq_int, gNe_int, isi_tt, isi_ts, isi_ti, isi_st, isi_ss, isi_si, isi_it, isi_is, isi_ii, gSub_e, gDiv_e, gMod_e, gLt_e, gLe_e, gGt_e, gGe_e, gNeg, gIs, gIsNot, idR, gInt, gAbs, gTy, ty_int, ty_str, ty_tup, ty_bl, ty_non, intOf, strOf, tupOf, lstOf, seqOf, dctOf, truR, truD, truC, gNm, gNilD, gConsD, gTupD, itemsE, itemsS, itemsV, iE, iV, iRg1, iRevEn, iVs, seqV, seqE, List.getElem?_cons_zero, List.getElem?_cons_succ, List.set_cons_zero, List.set_cons_succ, List.length_cons, List.length_nil, Option.map_some, Option.map_none, if_true, decide_true, decide_false, Bool.false_eq_true, if_false, ite_true, ite_false, reduceIte, Nat.reduceAdd, reduceCtorEq, Bool.not_true, Bool.not_false])
        rw [st3]
        obtain ⟨v3, a2, b2, e2, hv3⟩ := ev_draw n a1 b1 3 (by decide) (by decide)
        have nx : ∃ (k : Int) (a4 b4 : Int), sSet 3 (xIf (xTest (op2 gGt (opC 2 (run (n + 1) .f_law_draw) (aCons (xVar 0) (aCons (xC (.int 3)) aNil))) (xC (.int 0)))) (opC 2 (run (n + 1) .f_law_draw) (aCons (xVar 0) (aCons (xC (.int 200)) aNil))) (op2 gMul (op2 gMul (opC 2 (run (n + 1) .f_law_draw) (aCons (xVar 0) (aCons (xC (.int 1000000)) aNil))) (opC 2 (run (n + 1) .f_law_draw) (aCons (xVar 0) (aCons (xC (.int 1000000)) aNil)))) (opC 2 (run (n + 1) .f_law_draw) (aCons (xVar 0) (aCons (xC (.int 1000000)) aNil))))) [.d (.ref 0), .d (.int deep), .d (.int pick), .none, .none] (B a1 b1)
            = some (.nx [.d (.ref 0), .d (.int deep), .d (.int pick), .d (.int k), .none] (B a4 b4)) ∧ 0 ≤ k ∧ k < 1000000000000000000 := by
          by_cases h3 : 0 < v3
          · obtain ⟨v, a3, b3, e3, hv⟩ := ev_draw n a2 b2 200 (by decide) (by decide)
            refine ⟨v, a3, b3, ?_, by omega, by omega⟩
            simp only [e2, show (0 : Int) < (v3 : Int) from by omega, e3, szl, Nat.reduceLeDiff, Int.reduceLT, Int.reduceLE, Int.reduceNeg, List.length_map, List.length_append, List.nil_append, List.cons_append, at_ok, at_exc, ts_ok, ts_exc, sSeq, sSet, sRet, sRetV, sIf, sNil, sRaise, sAug, sAppOwn, sExt, sAsg, sAsg2, sPar2, sPar3, sBrk, sFor, sSetIx, sTry, calmS, slOf, slA, retOk, fnRes, gIAdd, gICat, xVar, xC, xIf, xTest, xTru, xAnd, xOr, xNot, xAndV, xOrV, xChain, xTup, xLst, xSl, oSome, oNone, op1, op2, opN, opM1, opC, aCons, aNil, lift, g1, g2, dAll, gAdd, gLen_tup, gLen_bor, gLen_new, gLen_bz, wipeS, gIx_tup, gIx_bor, gIx_bz, kS, gEq_int, gNe_int, isi_tt, isi_ts, isi_ti, isi_st, isi_ss, isi_si, isi_it, isi_is, isi_ii, gSub_e, gDiv_e, gMod_e, gLt_e, gLe_e, gGt_e, gGe_e, gNeg, gIs, gIsNot, idR, gInt, gAbs, gTy, ty_int, ty_str, ty_tup, ty_bl, ty_non, intOf, strOf, tupOf, lstOf, seqOf, dctOf, truR, truD, truC, gNm, gNilD, gConsD, gTupD, itemsE, itemsS, itemsV, iE, iV, iRg1, iRevEn, iVs, seqV, seqE, List.getElem?_cons_zero, List.getElem?_cons_succ, List.set_cons_zero, List.set_cons_succ, List.length_cons, List.length_nil, Option.map_some, Option.map_none, if_true, decide_true, decide_false, Bool.false_eq_true, if_false, ite_true, ite_false, reduceIte, Nat.reduceAdd, reduceCtorEq, Bool.not_true, Bool.not_false]
          · obtain ⟨x, a3, b3, ex, hx⟩ := ev_draw n a2 b2 1000000 (by decide) (by decide)
            obtain ⟨y, a4, b4, ey, hy⟩ := ev_draw n a3 b3 1000000 (by decide) (by decide)
            obtain ⟨z, a5, b5, ez, hz⟩ := ev_draw n a4 b4 1000000 (by decide) (by decide)
            obtain ⟨m1, m2, m3, m4⟩ := mul3 (Int.natCast_nonneg x) (Int.natCast_nonneg y) (Int.natCast_nonneg z) hx hy hz
            refine ⟨(x : Int) * y * z, a5, b5, ?_, m3, m4⟩
            simp only [e2, show ¬ ((0 : Int) < (v3 : Int)) from by omega, ex, ey, ez, gMul_l (i := (x : Int)) (by omega) (by omega), gMul_l (i := (x : Int) * y) (by omega) (by omega), szl, Nat.reduceLeDiff, Int.reduceLT, Int.reduceLE, Int.reduceNeg, List.length_map, List.length_append, List.nil_append, List.cons_append, at_ok, at_exc, ts_ok, ts_exc, sSeq, sSet, sRet, sRetV, sIf, sNil, sRaise, sAug, sAppOwn, sExt, sAsg, sAsg2, sPar2, sPar3, sBrk, sFor, sSetIx, sTry, calmS, slOf, slA, retOk, fnRes, gIAdd, gICat, xVar, xC, xIf, xTest, xTru, xAnd, xOr, xNot, xAndV, xOrV, xChain, xTup, xLst, xSl, oSome, oNone, op1, op2, opN, opM1, opC, aCons, aNil, lift, g1, g2, dAll, gAdd, gLen_tup, gLen_bor, gLen_new, gLen_bz, wipeS, gIx_tup, gIx_bor, gIx_bz, kS, gEq_int, gNe_int, isi_tt, isi_ts, isi_ti, isi_st, isi_ss, isi_si, isi_it, isi_is, isi_ii, gSub_e, gDiv_e, gMod_e, gLt_e, gLe_e, gGt_e, gGe_e, gNeg, gIs, gIsNot, idR, gInt, gAbs, gTy, ty_int, ty_str, ty_tup, ty_bl, ty_non, intOf, strOf, tupOf, lstOf, seqOf, dctOf, truR, truD, truC, gNm, gNilD, gConsD, gTupD, itemsE, itemsS, itemsV, iE, iV, iRg1, iRevEn, iVs, seqV, seqE, List.getElem?_cons_zero, List.getElem?_cons_succ, List.set_cons_zero, List.set_cons_succ, List.length_cons, List.length_nil, Option.map_some, Option.map_none, if_true, decide_true, decide_false, Bool.false_eq_true, if_false, ite_true, ite_false, reduceIte, Nat.reduceAdd, reduceCtorEq, Bool.not_true, Bool.not_false]
        obtain ⟨k, a4, b4, e4, hk1, hk2⟩ := nx
        rw [sSeq_nx e4]
        obtain ⟨v2, a5, b5, e5, hv2⟩ := ev_draw n a4 b4 2 (by decide) (by decide)
        by_cases h0 : v2 = 0
        · refine ⟨.int k, a5, b5, ?_, by omega, by omega⟩
          simp only [e5, show (v2 : Int) = 0 from by omega, szl, Nat.reduceLeDiff, Int.reduceLT, Int.reduceLE, Int.reduceNeg, List.length_map, List.length_append, List.nil_append, List.cons_append, at_ok, at_exc, ts_ok, ts_exc, sSeq, sSet, sRet, sRetV, sIf, sNil, sRaise, sAug, sAppOwn, sExt, sAsg, sAsg2, sPar2, sPar3, sBrk, sFor, sSetIx, sTry, calmS, slOf, slA, retOk, fnRes, gIAdd, gICat, xVar, xC, xIf, xTest, xTru, xAnd, xOr, xNot, xAndV, xOrV, xChain, xTup, xLst, xSl, oSome, oNone, op1, op2, opN, opM1, opC, aCons, aNil, lift, g1, g2, dAll, gAdd, gLen_tup, gLen_bor, gLen_new, gLen_bz, wipeS, gIx_tup, gIx_bor, gIx_bz, kS, gEq_int, gNe_int, isi_tt, isi_ts, isi_ti, isi_st, isi_ss, isi_si, isi_it, isi_is, isi_ii, gSub_e, gDiv_e, gMod_e, gLt_e, gLe_e, gGt_e, gGe_e, gNeg, gIs, gIsNot, idR, gInt, gAbs, gTy, ty_int, ty_str, ty_tup, ty_bl, ty_non, intOf, strOf, tupOf, lstOf, seqOf, dctOf, truR, truD, truC, gNm, gNilD, gConsD, gTupD, itemsE, itemsS, itemsV, iE, iV, iRg1, iRevEn, iVs, seqV, seqE, List.getElem?_cons_zero, List.getElem?_cons_succ, List.set_cons_zero, List.set_cons_succ, List.length_cons, List.length_nil, Option.map_some, Option.map_none, if_true, decide_true, decide_false, Bool.false_eq_true, if_false, ite_true, ite_false, reduceIte, Nat.reduceAdd, reduceCtorEq, Bool.not_true, Bool.not_false]
        · refine ⟨.int (0 - k), a5, b5, ?_, by omega, by omega⟩
          simp only [e5, show ¬ ((v2 : Int) = 0) from by omega, szl, Nat.reduceLeDiff, Int.reduceLT, Int.reduceLE, Int.reduceNeg, List.length_map, List.length_append, List.nil_append, List.cons_append, at_ok, at_exc, ts_ok, ts_exc, sSeq, sSet, sRet, sRetV, sIf, sNil, sRaise, sAug, sAppOwn, sExt, sAsg, sAsg2, sPar2, sPar3, sBrk, sFor, sSetIx, sTry, calmS, slOf, slA, retOk, fnRes, gIAdd, gICat, xVar, xC, xIf, xTest, xTru, xAnd, xOr, xNot, xAndV, xOrV, xChain, xTup, xLst, xSl, oSome, oNone, op1, op2, opN, opM1, opC, aCons, aNil, lift, g1, g2, dAll, gAdd, gLen_tup, gLen_bor, gLen_new, gLen_bz, wipeS, gIx_tup, gIx_bor, gIx_bz, kS, gEq_int, gNe_int, isi_tt, isi_ts, isi_ti, isi_st, isi_ss, isi_si, isi_it, isi_is, isi_ii, gSub_e, gDiv_e, gMod_e, gLt_e, gLe_e, gGt_e, gGe_e, gNeg, gIs, gIsNot, idR, gInt, gAbs, gTy, ty_int, ty_str, ty_tup, ty_bl, ty_non, intOf, strOf, tupOf, lstOf, seqOf, dctOf, truR, truD, truC, gNm, gNilD, gConsD, gTupD, itemsE, itemsS, itemsV, iE, iV, iRg1, iRevEn, iVs, seqV, seqE, List.getElem?_cons_zero, List.getElem?_cons_succ, List.set_cons_zero, List.set_cons_succ, List.length_cons, List.length_nil, Option.map_some, Option.map_none, if_true, decide_true, decide_false, Bool.false_eq_true, if_false, ite_true, ite_false, reduceIte, Nat.reduceAdd, reduceCtorEq, Bool.not_true, Bool.not_false]
end Sh65
set_option Elab.async false
set_option linter.all false
set_option maxRecDepth 100000
set_option maxHeartbeats 4000000
namespace Sh65
open PySem Sh
/-! ### the row of a thing -/
def idxc (c : Nat) : Int := ((SG.idxOf c : Nat) : Int)
theorem idxc_all : ∀ j ∈ List.range 44, idxc (sgc j) = (j : Int) := by decide +kernel
theorem idxc_sg {j : Nat} (h : j < 44) : idxc (sgc j) = (j : Int) := idxc_all j (List.mem_range.mpr h)
def zz (i : Int) : Nat := if 0 ≤ i then (2 * i).toNat else (-2 * i - 1).toNat
theorem zz_pos {i : Int} (h : 0 ≤ i) : ((zz i : Nat) : Int) = 2 * i := by unfold zz; rw [if_pos h]; omega
theorem zz_neg {i : Int} (h : ¬ 0 ≤ i) : ((zz i : Nat) : Int) = -2 * i - 1 := by unfold zz; rw [if_neg h]; omega
def enc : Nat → D → List Int
  | _ + 1, .int i => 1 :: digs (zz i)
  | _ + 1, .str z => 2 :: (digs z.length ++ z.cps.toList.map idxc)
  | n + 1, .tup xs => 3 :: (digs xs.length ++ (xs.map (enc n)).flatten)
  | _, _ => []
theorem p9 : (128 : Nat) ^ (8 + 1) = 9223372036854775808 := by decide
theorem zz_lt {i : Int} (h1 : -1152921504606846976 < i) (h2 : i < 1152921504606846976) : zz i < 128 ^ (8 + 1) := by
  rw [p9]; unfold zz; split <;> omega
theorem len_lt {n : Nat} (h : n ≤ 130) : n < 128 ^ (8 + 1) := by rw [p9]; omega
theorem enc_len : ∀ (m : Nat) (d : D), Ok m d → (enc m d).length ≤ 200 * 4 ^ m
  | 0, d, h => h.elim
  | m + 1, .int i, h => by
    have := digs_len 8 (zz i) (zz_lt h.1 h.2)
    have p : 0 < 4 ^ (m + 1) := Nat.pow_pos (by decide)
    show (digs (zz i)).length + 1 ≤ _
    omega
  | m + 1, .str z, ⟨js, hj, hl, hz⟩ => by
    subst hz
    have := digs_len 8 (txt js).length (by rw [txt_len]; exact len_lt hl)
    have p : 0 < 4 ^ m := Nat.pow_pos (by decide)
    have e : (txt js).cps.toList.length = js.length := by simp [txt]
    show (digs _ ++ _).length + 1 ≤ _
    rw [List.length_append, List.length_map, e, Nat.pow_succ]
    omega
  | m + 1, .tup xs, ⟨hl, hx⟩ => by
    have := digs_len 0 xs.length (by show _ < 128; omega)
    have p : 0 < 4 ^ m := Nat.pow_pos (by decide)
    have key : ∀ ys : List D, (∀ y ∈ ys, Ok m y) → ((ys.map (enc m)).flatten).length ≤ ys.length * (200 * 4 ^ m) := by
      intro ys
      induction ys with
      | nil => intro _; exact Nat.zero_le _
      | cons y ys ih =>
        intro hy
        rw [List.map_cons, List.flatten_cons, List.length_append, List.length_cons, Nat.succ_mul]
        have := ih fun z hz => hy z (List.mem_cons_of_mem _ hz)
        have := enc_len m y (hy y List.mem_cons_self)
        omega
    have k2 := key xs hx
    have k3 : xs.length * (200 * 4 ^ m) ≤ 3 * (200 * 4 ^ m) := Nat.mul_le_mul_right _ hl
    show (digs _ ++ _).length + 1 ≤ _
    rw [List.length_append, Nat.pow_succ]
    omega
  | m + 1, .non, h => h.elim
  | m + 1, .bl _, h => h.elim
  | m + 1, .ty _, h => h.elim
  | m + 1, .ref _, h => h.elim
/-! ### signs -/
theorem signs_txt (js : List Nat) : signs (txt js) = js.map fun j => D.str (txt [j]) := by
  unfold signs txt
  simp
theorem gNotIn_sg {j : Nat} (hj : j < 44) (h : Hs) : gNotIn (.d (.str (txt [j]))) (.d (.str k_SIGNS)) h = some (.d (.bl false)) := by
  have hm : sgc j ∈ k_SIGNS.cps.toList := List.mem_of_getElem? (SG_get hj)
  have : inR (.d (.str (txt [j]))) (.d (.str k_SIGNS)) h = some (decide (sgc j ∈ k_SIGNS.cps.toList)) := rfl
  unfold gNotIn
  rw [this, decide_eq_true hm] <;> rfl
theorem occ_all : ∀ j ∈ List.range 44, Builtin.Str.occurrences k_SIGNS (txt [j]) 0 k_SIGNS.length 1 = [j] := by decide +kernel
theorem gSIndex_sg {j : Nat} (hj : j < 44) (h : Hs) : gSIndex k_SIGNS (.d (.str (txt [j]))) h = some (.d (.int (j : Int))) := by
  show (match Builtin.Str.occurrences k_SIGNS (txt [j]) 0 k_SIGNS.length 1 with
    | i :: _ => some (R.d (.int (i : Nat)))
    | [] => none) = _
  rw [occ_all j (List.mem_range.mpr hj)]
theorem any_signs (s0 s1 s2 s3 : Sl) (h : Hs) : ∀ js : List Nat, (∀ j ∈ js, j < 44) → anyL true (gNm 1) xYes (op2 gNotIn (xVar 1) (xC (.str k_SIGNS))) [s0, s1, s2, s3] (js.map fun j => D.str (txt [j])) h = some (false, h)
  | [], _ => rfl
  | j :: js, hj => by
    have e := any_signs s0 s1 s2 s3 h js fun k hk => hj k (List.mem_cons_of_mem _ hk)
    rw [List.map_cons, anyL]
    simp only [xYes, gNotIn_sg (hj j List.mem_cons_self), e, szl, Nat.reduceLeDiff, Int.reduceLT, Int.reduceLE, Int.reduceNeg, List.length_map, List.length_append, List.nil_append, List.cons_append, at_ok, at_exc, ts_ok, ts_exc, sSeq, sSet, sRet, sRetV, sIf, sNil, sRaise, sAug, sAppOwn, sExt, sAsg, sAsg2, sPar2, sPar3, sBrk, sFor, sSetIx, sTry, calmS, slOf, slA, retOk, fnRes, gIAdd, gICat, xVar, xC, xIf, xTest, xTru, xAnd, xOr, xNot, xAndV, xOrV, xChain, xTup, xLst, xSl, oSome, oNone, op1, op2, opN, opM1, opC, aCons, aNil, lift, g1, g2, dAll, gAdd, gLen_tup, gLen_bor, gLen_new, gLen_bz, wipeS, gIx_tup, gIx_bor, gIx_bz, kS, gEq_int, gNe_int, isi_tt, isi_ts, isi_ti, isi_st, isi_ss, isi_si, isi_it, isi_is, isi_ii, gSub_e, gDiv_e, gMod_e, gLt_e, gLe_e, gGt_e, gGe_e, gNeg, gIs, gIsNot, idR, gInt, gAbs, gTy, ty_int, ty_str, ty_tup, ty_bl, ty_non, intOf, strOf, tupOf, lstOf, seqOf, dctOf, truR, truD, truC, gNm, gNilD, gConsD, gTupD, itemsE, itemsS, itemsV, iE, iV, iRg1, iRevEn, iVs, seqV, seqE, List.getElem?_cons_zero, List.getElem?_cons_succ, List.set_cons_zero, List.set_cons_succ, List.length_cons, List.length_nil, Option.map_some, Option.map_none, if_true, decide_true, decide_false, Bool.false_eq_true, if_false, ite_true, ite_false, reduceIte, Nat.reduceAdd, reduceCtorEq, Bool.not_true, Bool.not_false]
theorem lc_signs4 (s0 s1 s2 s3 : Sl) (h : Hs) : ∀ (js : List Nat) (q : Nat), (∀ j ∈ js, j < 44) → q + js.length ≤ 1000 → lcL (gNm 1) xYes (opM1 gSIndex (xC (.str k_SIGNS)) (xVar 1)) [s0, s1, s2, s3] (js.map fun j => D.str (txt [j])) q h = some (js.map fun (j : Nat) => D.int (j : Int), h)
  | [], _, _, _ => rfl
  | j :: js, q, hj, hq => by
    rw [List.length_cons] at hq
    have e := lc_signs4 s0 s1 s2 s3 h js (q + 1) (fun k hk => hj k (List.mem_cons_of_mem _ hk)) (by omega)
    rw [List.map_cons, List.map_cons, lcL]
    simp only [xYes, gSIndex_sg (hj j List.mem_cons_self), e, show q < 16777216 from by omega, szl, Nat.reduceLeDiff, Int.reduceLT, Int.reduceLE, Int.reduceNeg, List.length_map, List.length_append, List.nil_append, List.cons_append, at_ok, at_exc, ts_ok, ts_exc, sSeq, sSet, sRet, sRetV, sIf, sNil, sRaise, sAug, sAppOwn, sExt, sAsg, sAsg2, sPar2, sPar3, sBrk, sFor, sSetIx, sTry, calmS, slOf, slA, retOk, fnRes, gIAdd, gICat, xVar, xC, xIf, xTest, xTru, xAnd, xOr, xNot, xAndV, xOrV, xChain, xTup, xLst, xSl, oSome, oNone, op1, op2, opN, opM1, opC, aCons, aNil, lift, g1, g2, dAll, gAdd, gLen_tup, gLen_bor, gLen_new, gLen_bz, wipeS, gIx_tup, gIx_bor, gIx_bz, kS, gEq_int, gNe_int, isi_tt, isi_ts, isi_ti, isi_st, isi_ss, isi_si, isi_it, isi_is, isi_ii, gSub_e, gDiv_e, gMod_e, gLt_e, gLe_e, gGt_e, gGe_e, gNeg, gIs, gIsNot, idR, gInt, gAbs, gTy, ty_int, ty_str, ty_tup, ty_bl, ty_non, intOf, strOf, tupOf, lstOf, seqOf, dctOf, truR, truD, truC, gNm, gNilD, gConsD, gTupD, itemsE, itemsS, itemsV, iE, iV, iRg1, iRevEn, iVs, seqV, seqE, List.getElem?_cons_zero, List.getElem?_cons_succ, List.set_cons_zero, List.set_cons_succ, List.length_cons, List.length_nil, Option.map_some, Option.map_none, if_true, decide_true, decide_false, Bool.false_eq_true, if_false, ite_true, ite_false, reduceIte, Nat.reduceAdd, reduceCtorEq, Bool.not_true, Bool.not_false]
theorem lc_signs3 (s0 s1 s2 s3 : Sl) (h : Hs) : ∀ (js : List Nat) (q : Nat), (∀ j ∈ js, j < 44) → q + js.length ≤ 1000 → lcL (gNm 3) xYes (opM1 gSIndex (xC (.str k_SIGNS)) (xVar 3)) [s0, s1, s2, s3] (js.map fun j => D.str (txt [j])) q h = some (js.map fun (j : Nat) => D.int (j : Int), h)
  | [], _, _, _ => rfl
  | j :: js, q, hj, hq => by
    rw [List.length_cons] at hq
    have e := lc_signs3 s0 s1 s2 s3 h js (q + 1) (fun k hk => hj k (List.mem_cons_of_mem _ hk)) (by omega)
    rw [List.map_cons, List.map_cons, lcL]
    simp only [xYes, gSIndex_sg (hj j List.mem_cons_self), e, show q < 16777216 from by omega, szl, Nat.reduceLeDiff, Int.reduceLT, Int.reduceLE, Int.reduceNeg, List.length_map, List.length_append, List.nil_append, List.cons_append, at_ok, at_exc, ts_ok, ts_exc, sSeq, sSet, sRet, sRetV, sIf, sNil, sRaise, sAug, sAppOwn, sExt, sAsg, sAsg2, sPar2, sPar3, sBrk, sFor, sSetIx, sTry, calmS, slOf, slA, retOk, fnRes, gIAdd, gICat, xVar, xC, xIf, xTest, xTru, xAnd, xOr, xNot, xAndV, xOrV, xChain, xTup, xLst, xSl, oSome, oNone, op1, op2, opN, opM1, opC, aCons, aNil, lift, g1, g2, dAll, gAdd, gLen_tup, gLen_bor, gLen_new, gLen_bz, wipeS, gIx_tup, gIx_bor, gIx_bz, kS, gEq_int, gNe_int, isi_tt, isi_ts, isi_ti, isi_st, isi_ss, isi_si, isi_it, isi_is, isi_ii, gSub_e, gDiv_e, gMod_e, gLt_e, gLe_e, gGt_e, gGe_e, gNeg, gIs, gIsNot, idR, gInt, gAbs, gTy, ty_int, ty_str, ty_tup, ty_bl, ty_non, intOf, strOf, tupOf, lstOf, seqOf, dctOf, truR, truD, truC, gNm, gNilD, gConsD, gTupD, itemsE, itemsS, itemsV, iE, iV, iRg1, iRevEn, iVs, seqV, seqE, List.getElem?_cons_zero, List.getElem?_cons_succ, List.set_cons_zero, List.set_cons_succ, List.length_cons, List.length_nil, Option.map_some, Option.map_none, if_true, decide_true, decide_false, Bool.false_eq_true, if_false, ite_true, ite_false, reduceIte, Nat.reduceAdd, reduceCtorEq, Bool.not_true, Bool.not_false]
theorem idx_txt (js : List Nat) (hj : ∀ j ∈ js, j < 44) : (txt js).cps.toList.map idxc = js.map fun (j : Nat) => (j : Int) := by
  unfold txt
  simp only [List.map_map]
  exact List.map_congr_left fun j hm => idxc_sg (hj j hm)
end Sh65
set_option Elab.async false
set_option linter.all false
set_option maxRecDepth 100000
set_option maxHeartbeats 4000000
namespace Sh65
open PySem Sh
theorem I_app (a b : List Int) : I a ++ I b = I (a ++ b) := (List.map_append).symm
theorem I_len (a : List Int) : (I a).length = a.length := List.length_map _
theorem lw_loop (F : Fd) (E : D → List Int) (s0 s3 : Sl) (h : Hs) : ∀ (ys : List D) (made : List Int) (x2 : Sl), (∀ y ∈ ys, F [.d y] h = some (.ok (.new (.lst (I (E y)))) h)) → made.length + ((ys.map E).flatten).length ≤ 16777216 →
    ∃ x2', forL (gNm 2) (sSet 1 (op2 gAdd (xVar 1) (opC 1 F (aCons (xVar 2) aNil)))) ys [s0, .own (.lst (I made)), x2, s3] h = some (.nx [s0, .own (.lst (I (made ++ (ys.map E).flatten))), x2', s3] h)
  | [], made, x2, _, _ => ⟨x2, by simp [forL]⟩
  | y :: ys, made, x2, hF, hl => by
    rw [List.map_cons, List.flatten_cons, List.length_append] at hl
    obtain ⟨x2', e⟩ := lw_loop F E s0 s3 h ys (made ++ E y) (.d y) (fun z hz => hF z (List.mem_cons_of_mem _ hz)) (by rw [List.length_append]; omega)
    refine ⟨x2', ?_⟩
    rw [forL]
    simp only [hF y List.mem_cons_self, show made.length + (E y).length ≤ 16777216 from by omega, I_app, e, szl, Nat.reduceLeDiff, Int.reduceLT, Int.reduceLE, Int.reduceNeg, List.length_map, List.length_append, List.nil_append, List.cons_append, at_ok, at_exc, ts_ok, ts_exc, sSeq, sSet, sRet, sRetV, sIf, sNil, sRaise, sAug, sAppOwn, sExt, sAsg, sAsg2, sPar2, sPar3, sBrk, sFor, sSetIx, sTry, calmS, slOf, slA, retOk, fnRes, gIAdd, gICat, xVar, xC, xIf, xTest, xTru, xAnd, xOr, xNot, xAndV, xOrV, xChain, xTup, xLst, xSl, oSome, oNone, op1, op2, opN, opM1, opC, aCons, aNil, lift, g1, g2, dAll, gAdd, gLen_tup, gLen_bor, gLen_new, gLen_bz, wipeS, gIx_tup, gIx_bor, gIx_bz, kS, gEq_int, gNe_int, isi_tt, isi_ts, isi_ti, isi_st, isi_ss, isi_si, isi_it, isi_is, isi_ii, gSub_e, gDiv_e, gMod_e, gLt_e, gLe_e, gGt_e, gGe_e, gNeg, gIs, gIsNot, idR, gInt, gAbs, gTy, ty_int, ty_str, ty_tup, ty_bl, ty_non, intOf, strOf, tupOf, lstOf, seqOf, dctOf, truR, truD, truC, gNm, gNilD, gConsD, gTupD, itemsE, itemsS, itemsV, iE, iV, iRg1, iRevEn, iVs, seqV, seqE, List.getElem?_cons_zero, List.getElem?_cons_succ, List.set_cons_zero, List.set_cons_succ, List.length_cons, List.length_nil, Option.map_some, Option.map_none, if_true, decide_true, decide_false, Bool.false_eq_true, if_false, ite_true, ite_false, reduceIte, Nat.reduceAdd, reduceCtorEq, Bool.not_true, Bool.not_false]
    rw [List.map_cons, List.flatten_cons, List.append_assoc]
theorem w_loop (F : Fd) (E : D → List Int) (s0 s1 : Sl) (h : Hs) : ∀ (ys : List D) (made : List Int) (x3 : Sl), (∀ y ∈ ys, F [.d y] h = some (.ok (.new (.lst (I (E y)))) h)) → made.length + ((ys.map E).flatten).length ≤ 16777216 →
    ∃ x3', forL (gNm 3) (sExt 2 (opC 1 F (aCons (xVar 3) aNil))) ys [s0, s1, .own (.lst (I made)), x3] h = some (.nx [s0, s1, .own (.lst (I (made ++ (ys.map E).flatten))), x3'] h)
  | [], made, x3, _, _ => ⟨x3, by simp [forL]⟩
  | y :: ys, made, x3, hF, hl => by
    rw [List.map_cons, List.flatten_cons, List.length_append] at hl
    obtain ⟨x3', e⟩ := w_loop F E s0 s1 h ys (made ++ E y) (.d y) (fun z hz => hF z (List.mem_cons_of_mem _ hz)) (by rw [List.length_append]; omega)
    refine ⟨x3', ?_⟩
    rw [forL]
    simp only [hF y List.mem_cons_self, show made.length + (E y).length ≤ 16777216 from by omega, I_app, e, szl, Nat.reduceLeDiff, Int.reduceLT, Int.reduceLE, Int.reduceNeg, List.length_map, List.length_append, List.nil_append, List.cons_append, at_ok, at_exc, ts_ok, ts_exc, sSeq, sSet, sRet, sRetV, sIf, sNil, sRaise, sAug, sAppOwn, sExt, sAsg, sAsg2, sPar2, sPar3, sBrk, sFor, sSetIx, sTry, calmS, slOf, slA, retOk, fnRes, gIAdd, gICat, xVar, xC, xIf, xTest, xTru, xAnd, xOr, xNot, xAndV, xOrV, xChain, xTup, xLst, xSl, oSome, oNone, op1, op2, opN, opM1, opC, aCons, aNil, lift, g1, g2, dAll, gAdd, gLen_tup, gLen_bor, gLen_new, gLen_bz, wipeS, gIx_tup, gIx_bor, gIx_bz, kS, gEq_int, gNe_int, isi_tt, isi_ts, isi_ti, isi_st, isi_ss, isi_si, isi_it, isi_is, isi_ii, gSub_e, gDiv_e, gMod_e, gLt_e, gLe_e, gGt_e, gGe_e, gNeg, gIs, gIsNot, idR, gInt, gAbs, gTy, ty_int, ty_str, ty_tup, ty_bl, ty_non, intOf, strOf, tupOf, lstOf, seqOf, dctOf, truR, truD, truC, gNm, gNilD, gConsD, gTupD, itemsE, itemsS, itemsV, iE, iV, iRg1, iRevEn, iVs, seqV, seqE, List.getElem?_cons_zero, List.getElem?_cons_succ, List.set_cons_zero, List.set_cons_succ, List.length_cons, List.length_nil, Option.map_some, Option.map_none, if_true, decide_true, decide_false, Bool.false_eq_true, if_false, ite_true, ite_false, reduceIte, Nat.reduceAdd, reduceCtorEq, Bool.not_true, Bool.not_false]
    rw [List.map_cons, List.flatten_cons, List.append_assoc]
theorem p4 {m : Nat} (h : m ≤ 7) : 200 * 4 ^ m ≤ 3276800 := by
  have := Nat.pow_le_pow_right (show 0 < 4 from by decide) h
  omega
theorem parts_len {m : Nat} {xs : List D} (h : Ok (m + 1) (.tup xs)) (hm : m + 1 ≤ 7) : 1 + (digs xs.length).length + ((xs.map (enc m)).flatten).length ≤ 3276800 := by
  have h0 := enc_len (m + 1) (.tup xs) h
  have e : (enc (m + 1) (.tup xs)).length = (digs xs.length ++ (xs.map (enc m)).flatten).length + 1 := rfl
  have := p4 hm
  rw [e, List.length_append] at h0
  omega
theorem ev_law_write : ∀ (m n : Nat) (d : D) (h : Hs), Ok m d → m ≤ n → m ≤ 7 → run (n + 10) .f_law_write [.d d] h = some (.ok (.new (.lst (I (enc m d)))) h)
  | 0, _, _, _, h, _, _ => h.elim
  | m + 1, n, .int i, h, ho, _, _ => by
    rw [r_f_law_write]
    unfold b_f_law_write
    have hz := zz_lt ho.1 ho.2
    have hd := digs_len 8 (zz i) hz
    have e := ev_law_digits 8 (n + 8) (zz i) h hz (by omega) (by omega)
    by_cases hi : 0 ≤ i
    · rw [zz_pos hi] at e
      simp only [hi, gMul_l, e, show 1 + (digs (zz i)).length ≤ 16777216 from by omega, szl, Nat.reduceLeDiff, Int.reduceLT, Int.reduceLE, Int.reduceNeg, List.length_map, List.length_append, List.nil_append, List.cons_append, at_ok, at_exc, ts_ok, ts_exc, sSeq, sSet, sRet, sRetV, sIf, sNil, sRaise, sAug, sAppOwn, sExt, sAsg, sAsg2, sPar2, sPar3, sBrk, sFor, sSetIx, sTry, calmS, slOf, slA, retOk, fnRes, gIAdd, gICat, xVar, xC, xIf, xTest, xTru, xAnd, xOr, xNot, xAndV, xOrV, xChain, xTup, xLst, xSl, oSome, oNone, op1, op2, opN, opM1, opC, aCons, aNil, lift, g1, g2, dAll, gAdd, gLen_tup, gLen_bor, gLen_new, gLen_bz, wipeS, gIx_tup, gIx_bor, gIx_bz, kS, gEq_int, gNe_int, isi_tt, isi_ts, isi_ti, isi_st, isi_ss, isi_si, isi_it, isi_is, isi_ii, gSub_e, gDiv_e, gMod_e, gLt_e, gLe_e, gGt_e, gGe_e, gNeg, gIs, gIsNot, idR, gInt, gAbs, gTy, ty_int, ty_str, ty_tup, ty_bl, ty_non, intOf, strOf, tupOf, lstOf, seqOf, dctOf, truR, truD, truC, gNm, gNilD, gConsD, gTupD, itemsE, itemsS, itemsV, iE, iV, iRg1, iRevEn, iVs, seqV, seqE, List.getElem?_cons_zero, List.getElem?_cons_succ, List.set_cons_zero, List.set_cons_succ, List.length_cons, List.length_nil, Option.map_some, Option.map_none, if_true, decide_true, decide_false, Bool.false_eq_true, if_false, ite_true, ite_false, reduceIte, Nat.reduceAdd, reduceCtorEq, Bool.not_true, Bool.not_false]
      rfl
    · rw [zz_neg hi, show -2 * i - 1 = 0 - 2 * i - 1 from by omega] at e
      simp only [hi, gMul_l, e, show 1 + (digs (zz i)).length ≤ 16777216 from by omega, szl, Nat.reduceLeDiff, Int.reduceLT, Int.reduceLE, Int.reduceNeg, List.length_map, List.length_append, List.nil_append, List.cons_append, at_ok, at_exc, ts_ok, ts_exc, sSeq, sSet, sRet, sRetV, sIf, sNil, sRaise, sAug, sAppOwn, sExt, sAsg, sAsg2, sPar2, sPar3, sBrk, sFor, sSetIx, sTry, calmS, slOf, slA, retOk, fnRes, gIAdd, gICat, xVar, xC, xIf, xTest, xTru, xAnd, xOr, xNot, xAndV, xOrV, xChain, xTup, xLst, xSl, oSome, oNone, op1, op2, opN, opM1, opC, aCons, aNil, lift, g1, g2, dAll, gAdd, gLen_tup, gLen_bor, gLen_new, gLen_bz, wipeS, gIx_tup, gIx_bor, gIx_bz, kS, gEq_int, gNe_int, isi_tt, isi_ts, isi_ti, isi_st, isi_ss, isi_si, isi_it, isi_is, isi_ii, gSub_e, gDiv_e, gMod_e, gLt_e, gLe_e, gGt_e, gGe_e, gNeg, gIs, gIsNot, idR, gInt, gAbs, gTy, ty_int, ty_str, ty_tup, ty_bl, ty_non, intOf, strOf, tupOf, lstOf, seqOf, dctOf, truR, truD, truC, gNm, gNilD, gConsD, gTupD, itemsE, itemsS, itemsV, iE, iV, iRg1, iRevEn, iVs, seqV, seqE, List.getElem?_cons_zero, List.getElem?_cons_succ, List.set_cons_zero, List.set_cons_succ, List.length_cons, List.length_nil, Option.map_some, Option.map_none, if_true, decide_true, decide_false, Bool.false_eq_true, if_false, ite_true, ite_false, reduceIte, Nat.reduceAdd, reduceCtorEq, Bool.not_true, Bool.not_false]
      rfl
  | m + 1, n, .str z, h, ⟨js, hj, hl, hz⟩, _, _ => by
    subst hz
    rw [r_f_law_write]
    unfold b_f_law_write
    have hlt := len_lt hl
    have hd := digs_len 8 js.length hlt
    have e := ev_law_digits 8 (n + 8) js.length h hlt (by omega) (by omega)
    have e2 := lc_signs3 (.d (.str (txt js))) .none .none .none h js 0 hj (by omega)
    have e3 : gLen (.d (.str (txt js))) h = some (.d (.int (js.length : Nat))) := by
      show (if (txt js).length ≤ sizeLine then some (R.d (.int (txt js).length)) else none) = _
      rw [txt_len, if_pos (by rw [szl]; omega)]
    have e4 : ((js.map fun (j : Nat) => D.int (j : Int))) = I (js.map fun (j : Nat) => (j : Int)) := by simp [I]
    rw [e4] at e2
    simp only [e3, e, show 1 + (digs js.length).length ≤ 16777216 from by omega, xLc, signs_txt, e2, show (digs js.length).length + 1 + js.length ≤ 16777216 from by omega, szl, Nat.reduceLeDiff, Int.reduceLT, Int.reduceLE, Int.reduceNeg, List.length_map, List.length_append, List.nil_append, List.cons_append, at_ok, at_exc, ts_ok, ts_exc, sSeq, sSet, sRet, sRetV, sIf, sNil, sRaise, sAug, sAppOwn, sExt, sAsg, sAsg2, sPar2, sPar3, sBrk, sFor, sSetIx, sTry, calmS, slOf, slA, retOk, fnRes, gIAdd, gICat, xVar, xC, xIf, xTest, xTru, xAnd, xOr, xNot, xAndV, xOrV, xChain, xTup, xLst, xSl, oSome, oNone, op1, op2, opN, opM1, opC, aCons, aNil, lift, g1, g2, dAll, gAdd, gLen_tup, gLen_bor, gLen_new, gLen_bz, wipeS, gIx_tup, gIx_bor, gIx_bz, kS, gEq_int, gNe_int, isi_tt, isi_ts, isi_ti, isi_st, isi_ss, isi_si, isi_it, isi_is, isi_ii, gSub_e, gDiv_e, gMod_e, gLt_e, gLe_e, gGt_e, gGe_e, gNeg, gIs, gIsNot, idR, gInt, gAbs, gTy, ty_int, ty_str, ty_tup, ty_bl, ty_non, intOf, strOf, tupOf, lstOf, seqOf, dctOf, truR, truD, truC, gNm, gNilD, gConsD, gTupD, itemsE, itemsS, itemsV, iE, iV, iRg1, iRevEn, iVs, seqV, seqE, List.getElem?_cons_zero, List.getElem?_cons_succ, List.set_cons_zero, List.set_cons_succ, List.length_cons, List.length_nil, Option.map_some, Option.map_none, if_true, decide_true, decide_false, Bool.false_eq_true, if_false, ite_true, ite_false, reduceIte, Nat.reduceAdd, reduceCtorEq, Bool.not_true, Bool.not_false]
    rw [enc, idx_txt js hj, txt_len]
    simp [I]
  | m + 1, n, .tup xs, h, ho, hn, hm => by
    obtain ⟨n, rfl⟩ : ∃ k, n = k + 1 := ⟨n - 1, by omega⟩
    rw [r_f_law_write]
    unfold b_f_law_write
    have hlt : xs.length < 128 ^ (0 + 1) := by have := ho.1; show _ < 128; omega
    have e := ev_law_digits 0 (n + 9) xs.length h hlt (by omega) (by omega)
    have hp := parts_len ho hm
    obtain ⟨x2, e2⟩ := lw_loop (run (n + 10) .f_law_write) (enc m) (.d (.tup xs)) .none h xs (3 :: digs xs.length) .none (fun y hy => ev_law_write m n y h (ho.2 y hy) (by omega) (by omega)) (by rw [List.length_cons]; omega)
    rw [I, List.map_cons] at e2
    simp only [e, show 1 + (digs xs.length).length ≤ 16777216 from by omega, e2, szl, Nat.reduceLeDiff, Int.reduceLT, Int.reduceLE, Int.reduceNeg, List.length_map, List.length_append, List.nil_append, List.cons_append, at_ok, at_exc, ts_ok, ts_exc, sSeq, sSet, sRet, sRetV, sIf, sNil, sRaise, sAug, sAppOwn, sExt, sAsg, sAsg2, sPar2, sPar3, sBrk, sFor, sSetIx, sTry, calmS, slOf, slA, retOk, fnRes, gIAdd, gICat, xVar, xC, xIf, xTest, xTru, xAnd, xOr, xNot, xAndV, xOrV, xChain, xTup, xLst, xSl, oSome, oNone, op1, op2, opN, opM1, opC, aCons, aNil, lift, g1, g2, dAll, gAdd, gLen_tup, gLen_bor, gLen_new, gLen_bz, wipeS, gIx_tup, gIx_bor, gIx_bz, kS, gEq_int, gNe_int, isi_tt, isi_ts, isi_ti, isi_st, isi_ss, isi_si, isi_it, isi_is, isi_ii, gSub_e, gDiv_e, gMod_e, gLt_e, gLe_e, gGt_e, gGe_e, gNeg, gIs, gIsNot, idR, gInt, gAbs, gTy, ty_int, ty_str, ty_tup, ty_bl, ty_non, intOf, strOf, tupOf, lstOf, seqOf, dctOf, truR, truD, truC, gNm, gNilD, gConsD, gTupD, itemsE, itemsS, itemsV, iE, iV, iRg1, iRevEn, iVs, seqV, seqE, List.getElem?_cons_zero, List.getElem?_cons_succ, List.set_cons_zero, List.set_cons_succ, List.length_cons, List.length_nil, Option.map_some, Option.map_none, if_true, decide_true, decide_false, Bool.false_eq_true, if_false, ite_true, ite_false, reduceIte, Nat.reduceAdd, reduceCtorEq, Bool.not_true, Bool.not_false]
    rfl
  | m + 1, _, .non, _, h, _, _ => h.elim
  | m + 1, _, .bl _, _, h, _, _ => h.elim
  | m + 1, _, .ty _, _, h, _, _ => h.elim
  | m + 1, _, .ref _, _, h, _, _ => h.elim
theorem ev_written : ∀ (m n : Nat) (d : D) (h : Hs), Ok m d → m ≤ n → m ≤ 7 → run (n + 2) .f_written [.d d] h = some (.ok (.new (.lst (I (enc m d)))) h)
  | 0, _, _, _, h, _, _ => h.elim
  | m + 1, n, .int i, h, ho, _, _ => by
    rw [r_f_written]
    unfold b_f_written
    have hz := zz_lt ho.1 ho.2
    have hd := digs_len 8 (zz i) hz
    have e := ev_digits 8 n (zz i) h hz (by omega)
    by_cases hi : 0 ≤ i
    · rw [zz_pos hi] at e
      simp only [is_int_i, hi, gMul_l, e, show 1 + (digs (zz i)).length ≤ 16777216 from by omega, szl, Nat.reduceLeDiff, Int.reduceLT, Int.reduceLE, Int.reduceNeg, List.length_map, List.length_append, List.nil_append, List.cons_append, at_ok, at_exc, ts_ok, ts_exc, sSeq, sSet, sRet, sRetV, sIf, sNil, sRaise, sAug, sAppOwn, sExt, sAsg, sAsg2, sPar2, sPar3, sBrk, sFor, sSetIx, sTry, calmS, slOf, slA, retOk, fnRes, gIAdd, gICat, xVar, xC, xIf, xTest, xTru, xAnd, xOr, xNot, xAndV, xOrV, xChain, xTup, xLst, xSl, oSome, oNone, op1, op2, opN, opM1, opC, aCons, aNil, lift, g1, g2, dAll, gAdd, gLen_tup, gLen_bor, gLen_new, gLen_bz, wipeS, gIx_tup, gIx_bor, gIx_bz, kS, gEq_int, gNe_int, isi_tt, isi_ts, isi_ti, isi_st, isi_ss, isi_si, isi_it, isi_is, isi_ii, gSub_e, gDiv_e, gMod_e, gLt_e, gLe_e, gGt_e, gGe_e, gNeg, gIs, gIsNot, idR, gInt, gAbs, gTy, ty_int, ty_str, ty_tup, ty_bl, ty_non, intOf, strOf, tupOf, lstOf, seqOf, dctOf, truR, truD, truC, gNm, gNilD, gConsD, gTupD, itemsE, itemsS, itemsV, iE, iV, iRg1, iRevEn, iVs, seqV, seqE, List.getElem?_cons_zero, List.getElem?_cons_succ, List.set_cons_zero, List.set_cons_succ, List.length_cons, List.length_nil, Option.map_some, Option.map_none, if_true, decide_true, decide_false, Bool.false_eq_true, if_false, ite_true, ite_false, reduceIte, Nat.reduceAdd, reduceCtorEq, Bool.not_true, Bool.not_false]
      rfl
    · rw [zz_neg hi] at e
      simp only [is_int_i, hi, gMul_l, e, show 1 + (digs (zz i)).length ≤ 16777216 from by omega, szl, Nat.reduceLeDiff, Int.reduceLT, Int.reduceLE, Int.reduceNeg, List.length_map, List.length_append, List.nil_append, List.cons_append, at_ok, at_exc, ts_ok, ts_exc, sSeq, sSet, sRet, sRetV, sIf, sNil, sRaise, sAug, sAppOwn, sExt, sAsg, sAsg2, sPar2, sPar3, sBrk, sFor, sSetIx, sTry, calmS, slOf, slA, retOk, fnRes, gIAdd, gICat, xVar, xC, xIf, xTest, xTru, xAnd, xOr, xNot, xAndV, xOrV, xChain, xTup, xLst, xSl, oSome, oNone, op1, op2, opN, opM1, opC, aCons, aNil, lift, g1, g2, dAll, gAdd, gLen_tup, gLen_bor, gLen_new, gLen_bz, wipeS, gIx_tup, gIx_bor, gIx_bz, kS, gEq_int, gNe_int, isi_tt, isi_ts, isi_ti, isi_st, isi_ss, isi_si, isi_it, isi_is, isi_ii, gSub_e, gDiv_e, gMod_e, gLt_e, gLe_e, gGt_e, gGe_e, gNeg, gIs, gIsNot, idR, gInt, gAbs, gTy, ty_int, ty_str, ty_tup, ty_bl, ty_non, intOf, strOf, tupOf, lstOf, seqOf, dctOf, truR, truD, truC, gNm, gNilD, gConsD, gTupD, itemsE, itemsS, itemsV, iE, iV, iRg1, iRevEn, iVs, seqV, seqE, List.getElem?_cons_zero, List.getElem?_cons_succ, List.set_cons_zero, List.set_cons_succ, List.length_cons, List.length_nil, Option.map_some, Option.map_none, if_true, decide_true, decide_false, Bool.false_eq_true, if_false, ite_true, ite_false, reduceIte, Nat.reduceAdd, reduceCtorEq, Bool.not_true, Bool.not_false]
      rfl
  | m + 1, n, .str z, h, ⟨js, hj, hl, hz⟩, _, _ => by
    subst hz
    rw [r_f_written]
    unfold b_f_written
    have hlt := len_lt hl
    have hd := digs_len 8 js.length hlt
    have e := ev_digits 8 n js.length h hlt (by omega)
    have e1 := any_signs (.d (.str (txt js))) .none .none .none h js hj
    have e2 := lc_signs4 (.d (.str (txt js))) .none .none .none h js 0 hj (by omega)
    have e3 : gLen (.d (.str (txt js))) h = some (.d (.int (js.length : Nat))) := by
      show (if (txt js).length ≤ sizeLine then some (R.d (.int (txt js).length)) else none) = _
      rw [txt_len, if_pos (by rw [szl]; omega)]
    have e4 : ((js.map fun (j : Nat) => D.int (j : Int))) = I (js.map fun (j : Nat) => (j : Int)) := by simp [I]
    rw [e4] at e2
    simp only [is_int_s, show ("str" : String) = "str" from rfl, xAny, e1, e3, e, show 1 + (digs js.length).length ≤ 16777216 from by omega, xLc, signs_txt, e2, show (digs js.length).length + 1 + js.length ≤ 16777216 from by omega, szl, Nat.reduceLeDiff, Int.reduceLT, Int.reduceLE, Int.reduceNeg, List.length_map, List.length_append, List.nil_append, List.cons_append, at_ok, at_exc, ts_ok, ts_exc, sSeq, sSet, sRet, sRetV, sIf, sNil, sRaise, sAug, sAppOwn, sExt, sAsg, sAsg2, sPar2, sPar3, sBrk, sFor, sSetIx, sTry, calmS, slOf, slA, retOk, fnRes, gIAdd, gICat, xVar, xC, xIf, xTest, xTru, xAnd, xOr, xNot, xAndV, xOrV, xChain, xTup, xLst, xSl, oSome, oNone, op1, op2, opN, opM1, opC, aCons, aNil, lift, g1, g2, dAll, gAdd, gLen_tup, gLen_bor, gLen_new, gLen_bz, wipeS, gIx_tup, gIx_bor, gIx_bz, kS, gEq_int, gNe_int, isi_tt, isi_ts, isi_ti, isi_st, isi_ss, isi_si, isi_it, isi_is, isi_ii, gSub_e, gDiv_e, gMod_e, gLt_e, gLe_e, gGt_e, gGe_e, gNeg, gIs, gIsNot, idR, gInt, gAbs, gTy, ty_int, ty_str, ty_tup, ty_bl, ty_non, intOf, strOf, tupOf, lstOf, seqOf, dctOf, truR, truD, truC, gNm, gNilD, gConsD, gTupD, itemsE, itemsS, itemsV, iE, iV, iRg1, iRevEn, iVs, seqV, seqE, List.getElem?_cons_zero, List.getElem?_cons_succ, List.set_cons_zero, List.set_cons_succ, List.length_cons, List.length_nil, Option.map_some, Option.map_none, if_true, decide_true, decide_false, Bool.false_eq_true, if_false, ite_true, ite_false, reduceIte, Nat.reduceAdd, reduceCtorEq, Bool.not_true, Bool.not_false]
    rw [enc, idx_txt js hj, txt_len]
    simp [I]
  | m + 1, n, .tup xs, h, ho, hn, hm => by
    obtain ⟨n, rfl⟩ : ∃ k, n = k + 1 := ⟨n - 1, by omega⟩
    rw [r_f_written]
    unfold b_f_written
    have hlt : xs.length < 128 ^ (0 + 1) := by have := ho.1; show _ < 128; omega
    have e := ev_digits 0 (n + 1) xs.length h hlt (by omega)
    have hp := parts_len ho hm
    obtain ⟨x2, e2⟩ := w_loop (run (n + 2) .f_written) (enc m) (.d (.tup xs)) .none h xs (3 :: digs xs.length) .none (fun y hy => ev_written m n y h (ho.2 y hy) (by omega) (by omega)) (by rw [List.length_cons]; omega)
    rw [I, List.map_cons] at e2
    simp only [is_int_t, show ("tuple" = "str") = False from by decide, e, show 1 + (digs xs.length).length ≤ 16777216 from by omega, e2, szl, Nat.reduceLeDiff, Int.reduceLT, Int.reduceLE, Int.reduceNeg, List.length_map, List.length_append, List.nil_append, List.cons_append, at_ok, at_exc, ts_ok, ts_exc, sSeq, sSet, sRet, sRetV, sIf, sNil, sRaise, sAug, sAppOwn, sExt, sAsg, sAsg2, sPar2, sPar3, sBrk, sFor, sSetIx, sTry, calmS, slOf, slA, retOk, fnRes, gIAdd, gICat, xVar, xC, xIf, xTest, xTru, xAnd, xOr, xNot, xAndV, xOrV, xChain, xTup, xLst, xSl, oSome, oNone, op1, op2, opN, opM1, opC, aCons, aNil, lift, g1, g2, dAll, gAdd, gLen_tup, gLen_bor, gLen_new, gLen_bz, wipeS, gIx_tup, gIx_bor, gIx_bz, kS, gEq_int, gNe_int, isi_tt, isi_ts, isi_ti, isi_st, isi_ss, isi_si, isi_it, isi_is, isi_ii, gSub_e, gDiv_e, gMod_e, gLt_e, gLe_e, gGt_e, gGe_e, gNeg, gIs, gIsNot, idR, gInt, gAbs, gTy, ty_int, ty_str, ty_tup, ty_bl, ty_non, intOf, strOf, tupOf, lstOf, seqOf, dctOf, truR, truD, truC, gNm, gNilD, gConsD, gTupD, itemsE, itemsS, itemsV, iE, iV, iRg1, iRevEn, iVs, seqV, seqE, List.getElem?_cons_zero, List.getElem?_cons_succ, List.set_cons_zero, List.set_cons_succ, List.length_cons, List.length_nil, Option.map_some, Option.map_none, if_true, decide_true, decide_false, Bool.false_eq_true, if_false, ite_true, ite_false, reduceIte, Nat.reduceAdd, reduceCtorEq, Bool.not_true, Bool.not_false]
    rfl
  | m + 1, _, .non, _, h, _, _ => h.elim
  | m + 1, _, .bl _, _, h, _, _ => h.elim
  | m + 1, _, .ty _, _, h, _, _ => h.elim
  | m + 1, _, .ref _, _, h, _, _ => h.elim
end Sh65
set_option Elab.async false
set_option linter.all false
set_option maxRecDepth 100000
set_option maxHeartbeats 4000000
namespace Sh65
open PySem Sh
/-! ### reading a number -/
/-- times, what is read so far, whether it is the first byte -/
def numA (t k : Int) (f : Bool) : List Int → Option (Int × List Int)
  | [] => none
  | x :: xs => if 128 ≤ x then numA (t * 128) (k + t * (x - 128)) false xs else if x = 0 ∧ f = false then none else some (k + t * x, xs)
def num (row : List Int) : Option (Int × List Int) := numA 1 0 true row
def Byte (row : List Int) : Prop := ∀ x ∈ row, 0 ≤ x ∧ x ≤ 255
theorem numA_len : ∀ (row : List Int) (t k : Int) (f : Bool) {v : Int} {ys : List Int}, numA t k f row = some (v, ys) → ys.length < row.length ∧ ∃ pre, row = pre ++ ys
  | [], _, _, _, _, _, h => by cases h
  | x :: xs, t, k, f, v, ys, h => by
    rw [numA] at h
    split at h
    · obtain ⟨h1, pre, h2⟩ := numA_len xs _ _ _ h
      exact ⟨by rw [List.length_cons]; omega, x :: pre, by rw [h2]; rfl⟩
    · split at h
      · cases h
      · cases h
        exact ⟨by rw [List.length_cons]; omega, [x], rfl⟩
theorem numA_nn : ∀ (row : List Int) (t k : Int) (f : Bool) {v : Int} {ys : List Int}, Byte row → 0 ≤ t → 0 ≤ k → numA t k f row = some (v, ys) → 0 ≤ v
  | [], _, _, _, _, _, _, _, _, h => by cases h
  | x :: xs, t, k, f, v, ys, hb, ht, hk, h => by
    have hx := hb x List.mem_cons_self
    rw [numA] at h
    split at h
    · exact numA_nn xs _ _ _ (fun y hy => hb y (List.mem_cons_of_mem _ hy)) (by omega) (by have := Int.mul_nonneg ht (show 0 ≤ x - 128 by omega); omega) h
    · split at h
      · cases h
      · cases h
        have := Int.mul_nonneg ht hx.1
        omega
/-- the law's reader -/
theorem lnum_loop (h : Hs) (b : Int) : ∀ (sfx pre : List Int) (n : Nat) (t k : Int), sfx.length < n → pre.length + sfx.length ≤ 16777216 → Byte sfx → (b : Int) ≤ pre.length →
    ∃ (t' k' : Int) (pre' sfx' : List Int), sWhile (xAnd (xTest (op2 gLt (xVar 1) (opN (g1 gLen) (aCons (xVar 0) aNil)))) (xTest (op2 gGe (op2 gIx (xVar 0) (xVar 1)) (xC (.int 128))))) (sPar3 2 3 1 (aCons (op2 gAdd (xVar 2) (op2 gMul (xVar 3) (op2 gSub (op2 gIx (xVar 0) (xVar 1)) (xC (.int 128))))) (aCons (op2 gMul (xVar 3) (xC (.int 128))) (aCons (op2 gAdd (xVar 1) (xC (.int 1))) aNil)))) n
        [.d (.tup (I (pre ++ sfx))), .d (.int pre.length), .d (.int k), .d (.int t), .d (.int b)] h = some (.nx [.d (.tup (I (pre ++ sfx))), .d (.int pre'.length), .d (.int k'), .d (.int t'), .d (.int b)] h)
      ∧ pre ++ sfx = pre' ++ sfx' ∧ pre.length ≤ pre'.length ∧ (match sfx' with
        | [] => numA t k (decide ((pre.length : Int) ≤ b)) sfx = none
        | x :: ys => 0 ≤ x ∧ x < 128 ∧ numA t k (decide ((pre.length : Int) ≤ b)) sfx = if x = 0 ∧ (b : Int) < pre'.length then none else some (k' + t' * x, ys))
  | _, _, 0, _, _, hn, _, _, _ => by omega
  | [], pre, n + 1, t, k, _, _, _, _ => by
    refine ⟨t, k, pre, [], ?_, rfl, Nat.le_refl _, rfl⟩
    unfold sWhile
    simp only [I, List.append_nil, show ¬ ((pre.length : Int) < (pre.length : Int)) from by omega, szl, Nat.reduceLeDiff, Int.reduceLT, Int.reduceLE, Int.reduceNeg, List.length_map, List.length_append, List.nil_append, List.cons_append, at_ok, at_exc, ts_ok, ts_exc, sSeq, sSet, sRet, sRetV, sIf, sNil, sRaise, sAug, sAppOwn, sExt, sAsg, sAsg2, sPar2, sPar3, sBrk, sFor, sSetIx, sTry, calmS, slOf, slA, retOk, fnRes, gIAdd, gICat, xVar, xC, xIf, xTest, xTru, xAnd, xOr, xNot, xAndV, xOrV, xChain, xTup, xLst, xSl, oSome, oNone, op1, op2, opN, opM1, opC, aCons, aNil, lift, g1, g2, dAll, gAdd, gLen_tup, gLen_bor, gLen_new, gLen_bz, wipeS, gIx_tup, gIx_bor, gIx_bz, kS, gEq_int, gNe_int, isi_tt, isi_ts, isi_ti, isi_st, isi_ss, isi_si, isi_it, isi_is, isi_ii, gSub_e, gDiv_e, gMod_e, gLt_e, gLe_e, gGt_e, gGe_e, gNeg, gIs, gIsNot, idR, gInt, gAbs, gTy, ty_int, ty_str, ty_tup, ty_bl, ty_non, intOf, strOf, tupOf, lstOf, seqOf, dctOf, truR, truD, truC, gNm, gNilD, gConsD, gTupD, itemsE, itemsS, itemsV, iE, iV, iRg1, iRevEn, iVs, seqV, seqE, List.getElem?_cons_zero, List.getElem?_cons_succ, List.set_cons_zero, List.set_cons_succ, List.length_cons, List.length_nil, Option.map_some, Option.map_none, if_true, decide_true, decide_false, Bool.false_eq_true, if_false, ite_true, ite_false, reduceIte, Nat.reduceAdd, reduceCtorEq, Bool.not_true, Bool.not_false]
  | x :: sfx, pre, n + 1, t, k, hn, hl, hb, hpb => by
    have hx := hb x List.mem_cons_self
    have hg := get_mid pre sfx x
    have hlen : (pre.length : Int) < ((pre.length + (sfx.length + 1) : Nat) : Int) := by omega
    rw [List.length_cons] at hn hl
    by_cases h1 : 128 ≤ x
    · obtain ⟨t', k', pre', sfx', e, e2, e3, e4⟩ := lnum_loop h b sfx (pre ++ [x]) n (t * 128) (k + t * (x - 128)) (by omega) (by rw [List.length_append]; show pre.length + 1 + sfx.length ≤ _; omega) (fun y hy => hb y (List.mem_cons_of_mem _ hy)) (by rw [List.length_append]; show b ≤ ((pre.length + 1 : Nat) : Int); omega)
      have ea : pre ++ [x] ++ sfx = pre ++ x :: sfx := by simp
      rw [ea] at e e2
      have ef : decide (((pre ++ [x]).length : Int) ≤ b) = false := by
        refine decide_eq_false ?_
        rw [List.length_append]; show ¬ (((pre.length + 1 : Nat) : Int) ≤ b); omega
      rw [ef] at e4
      have el : (((pre ++ [x]).length : Nat) : Int) = (pre.length : Int) + 1 := by rw [List.length_append]; rfl
      rw [el] at e
      refine ⟨t', k', pre', sfx', ?_, e2, by rw [List.length_append] at e3; have : ([x] : List Int).length = 1 := rfl; omega, ?_⟩
      · unfold sWhile
        simp only [hlen, hg, h1, gMul_r (i := t) (j := x - 128) (by omega) (by omega), gMul_r (i := t) (j := 128) (by omega) (by omega), e, szl, Nat.reduceLeDiff, Int.reduceLT, Int.reduceLE, Int.reduceNeg, List.length_map, List.length_append, List.nil_append, List.cons_append, at_ok, at_exc, ts_ok, ts_exc, sSeq, sSet, sRet, sRetV, sIf, sNil, sRaise, sAug, sAppOwn, sExt, sAsg, sAsg2, sPar2, sPar3, sBrk, sFor, sSetIx, sTry, calmS, slOf, slA, retOk, fnRes, gIAdd, gICat, xVar, xC, xIf, xTest, xTru, xAnd, xOr, xNot, xAndV, xOrV, xChain, xTup, xLst, xSl, oSome, oNone, op1, op2, opN, opM1, opC, aCons, aNil, lift, g1, g2, dAll, gAdd, gLen_tup, gLen_bor, gLen_new, gLen_bz, wipeS, gIx_tup, gIx_bor, gIx_bz, kS, gEq_int, gNe_int, isi_tt, isi_ts, isi_ti, isi_st, isi_ss, isi_si, isi_it, isi_is, isi_ii, gSub_e, gDiv_e, gMod_e, gLt_e, gLe_e, gGt_e, gGe_e, gNeg, gIs, gIsNot, idR, gInt, gAbs, gTy, ty_int, ty_str, ty_tup, ty_bl, ty_non, intOf, strOf, tupOf, lstOf, seqOf, dctOf, truR, truD, truC, gNm, gNilD, gConsD, gTupD, itemsE, itemsS, itemsV, iE, iV, iRg1, iRevEn, iVs, seqV, seqE, List.getElem?_cons_zero, List.getElem?_cons_succ, List.set_cons_zero, List.set_cons_succ, List.length_cons, List.length_nil, Option.map_some, Option.map_none, if_true, decide_true, decide_false, Bool.false_eq_true, if_false, ite_true, ite_false, reduceIte, Nat.reduceAdd, reduceCtorEq, Bool.not_true, Bool.not_false]
      · rw [numA, if_pos h1]
        exact e4
    · refine ⟨t, k, pre, x :: sfx, ?_, rfl, Nat.le_refl _, hx.1, by omega, ?_⟩
      · unfold sWhile
        simp only [hlen, hg, h1, szl, Nat.reduceLeDiff, Int.reduceLT, Int.reduceLE, Int.reduceNeg, List.length_map, List.length_append, List.nil_append, List.cons_append, at_ok, at_exc, ts_ok, ts_exc, sSeq, sSet, sRet, sRetV, sIf, sNil, sRaise, sAug, sAppOwn, sExt, sAsg, sAsg2, sPar2, sPar3, sBrk, sFor, sSetIx, sTry, calmS, slOf, slA, retOk, fnRes, gIAdd, gICat, xVar, xC, xIf, xTest, xTru, xAnd, xOr, xNot, xAndV, xOrV, xChain, xTup, xLst, xSl, oSome, oNone, op1, op2, opN, opM1, opC, aCons, aNil, lift, g1, g2, dAll, gAdd, gLen_tup, gLen_bor, gLen_new, gLen_bz, wipeS, gIx_tup, gIx_bor, gIx_bz, kS, gEq_int, gNe_int, isi_tt, isi_ts, isi_ti, isi_st, isi_ss, isi_si, isi_it, isi_is, isi_ii, gSub_e, gDiv_e, gMod_e, gLt_e, gLe_e, gGt_e, gGe_e, gNeg, gIs, gIsNot, idR, gInt, gAbs, gTy, ty_int, ty_str, ty_tup, ty_bl, ty_non, intOf, strOf, tupOf, lstOf, seqOf, dctOf, truR, truD, truC, gNm, gNilD, gConsD, gTupD, itemsE, itemsS, itemsV, iE, iV, iRg1, iRevEn, iVs, seqV, seqE, List.getElem?_cons_zero, List.getElem?_cons_succ, List.set_cons_zero, List.set_cons_succ, List.length_cons, List.length_nil, Option.map_some, Option.map_none, if_true, decide_true, decide_false, Bool.false_eq_true, if_false, ite_true, ite_false, reduceIte, Nat.reduceAdd, reduceCtorEq, Bool.not_true, Bool.not_false]
      · rw [numA, if_neg h1]
        have : (decide ((pre.length : Int) ≤ b) = false) = (b < pre.length) := by rw [decide_eq_false_iff_not]; exact propext (by omega)
        simp only [this]
theorem ev_law_number (n : Nat) (pre sfx : List Int) (h : Hs) (hl : pre.length + sfx.length < 1000000) (hb : Byte sfx) : run (n + 1) .f_law_number [.d (.tup (I (pre ++ sfx))), .d (.int pre.length)] h
    = match num sfx with
      | none => some (.ok (.d .non) h)
      | some (v, ys) => some (.ok (.d (.tup [.int v, .int (((pre ++ sfx).length - ys.length : Nat) : Int)])) h) := by
  rw [r_f_law_number]
  unfold b_f_law_number
  obtain ⟨t', k', pre', sfx', e, e2, e3, e4⟩ := lnum_loop h pre.length sfx pre wN 1 0 (by unfold wN; omega) (by omega) hb (Int.le_refl _)
  rw [decide_eq_true (Int.le_refl (pre.length : Int))] at e4
  have st1 : ∀ g : SX, sSeq (sPar3 2 3 4 (aCons (xC (.int 0)) (aCons (xC (.int 1)) (aCons (xVar 1) aNil)))) g [slA (.d (.tup (I (pre ++ sfx)))), slA (.d (.int pre.length)), .none, .none, .none] h = g [.d (.tup (I (pre ++ sfx))), .d (.int pre.length), .d (.int 0), .d (.int 1), .d (.int pre.length)] h := fun g => sSeq_nx (by simp only [szl, Nat.reduceLeDiff, Int.reduceLT, Int.reduceLE, Int.reduceNeg, List.length_map, List.length_append, List.nil_append, List.cons_append, at_ok, at_exc, ts_ok, ts_exc, sSeq, sSet, sRet, sRetV, sIf, sNil, sRaise, sAug, sAppOwn, sExt, sAsg, sAsg2, sPar2, sPar3, sBrk, sFor, sSetIx, sTry, calmS, slOf, slA, retOk, fnRes, gIAdd, gICat, xVar, xC, xIf, xTest, xTru, xAnd, xOr, xNot, xAndV, xOrV, xChain, xTup, xLst, xSl, oSome, oNone, op1, op2, opN, opM1, opC, aCons, aNil, lift, g1, g2, dAll, gAdd, gLen_tup, gLen_bor, gLen_new, gLen_bz, wipeS, gIx_tup, gIx_bor, gIx_bz, kS, gEq_int, gNe_int, isi_tt, isi_ts, isi_ti, isi_st, isi_ss, isi_si, isi_it, isi_is, isi_ii, gSub_e, gDiv_e, gMod_e, gLt_e, gLe_e, gGt_e, gGe_e, gNeg, gIs, gIsNot, idR, gInt, gAbs, gTy, ty_int, ty_str, ty_tup, ty_bl, ty_non, intOf, strOf, tupOf, lstOf, seqOf, dctOf, truR, truD, truC, gNm, gNilD, gConsD, gTupD, itemsE, itemsS, itemsV, iE, iV, iRg1, iRevEn, iVs, seqV, seqE, List.getElem?_cons_zero, List.getElem?_cons_succ, List.set_cons_zero, List.set_cons_succ, List.length_cons, List.length_nil, Option.map_some, Option.map_none, if_true, decide_true, decide_false, Bool.false_eq_true, if_false, ite_true, ite_false, reduceIte, Nat.reduceAdd, reduceCtorEq, Bool.not_true, Bool.not_false])
  rw [st1, sSeq_nx e, e2]
  unfold num
  cases sfx' with
  | nil =>
    rw [show numA 1 0 true sfx = none from e4]
    simp only [List.append_nil, I, show (pre'.length : Int) ≤ (pre'.length : Int) from Int.le_refl _, szl, Nat.reduceLeDiff, Int.reduceLT, Int.reduceLE, Int.reduceNeg, List.length_map, List.length_append, List.nil_append, List.cons_append, at_ok, at_exc, ts_ok, ts_exc, sSeq, sSet, sRet, sRetV, sIf, sNil, sRaise, sAug, sAppOwn, sExt, sAsg, sAsg2, sPar2, sPar3, sBrk, sFor, sSetIx, sTry, calmS, slOf, slA, retOk, fnRes, gIAdd, gICat, xVar, xC, xIf, xTest, xTru, xAnd, xOr, xNot, xAndV, xOrV, xChain, xTup, xLst, xSl, oSome, oNone, op1, op2, opN, opM1, opC, aCons, aNil, lift, g1, g2, dAll, gAdd, gLen_tup, gLen_bor, gLen_new, gLen_bz, wipeS, gIx_tup, gIx_bor, gIx_bz, kS, gEq_int, gNe_int, isi_tt, isi_ts, isi_ti, isi_st, isi_ss, isi_si, isi_it, isi_is, isi_ii, gSub_e, gDiv_e, gMod_e, gLt_e, gLe_e, gGt_e, gGe_e, gNeg, gIs, gIsNot, idR, gInt, gAbs, gTy, ty_int, ty_str, ty_tup, ty_bl, ty_non, intOf, strOf, tupOf, lstOf, seqOf, dctOf, truR, truD, truC, gNm, gNilD, gConsD, gTupD, itemsE, itemsS, itemsV, iE, iV, iRg1, iRevEn, iVs, seqV, seqE, List.getElem?_cons_zero, List.getElem?_cons_succ, List.set_cons_zero, List.set_cons_succ, List.length_cons, List.length_nil, Option.map_some, Option.map_none, if_true, decide_true, decide_false, Bool.false_eq_true, if_false, ite_true, ite_false, reduceIte, Nat.reduceAdd, reduceCtorEq, Bool.not_true, Bool.not_false]
  | cons x ys =>
    obtain ⟨x0, x1, e5⟩ := e4
    rw [e5]
    have hg := get_mid pre' ys x
    have key : ((pre'.length : Int) + 1) = (((pre'.length + (ys.length + 1)) - ys.length : Nat) : Int) := by omega
    have hle : ¬ (((pre'.length + (ys.length + 1) : Nat) : Int) ≤ (pre'.length : Int)) := by omega
    by_cases hz : x = 0
    · subst hz
      by_cases hp : (pre.length : Int) < pre'.length
      · simp only [hle, hg, hp, and_self, szl, Nat.reduceLeDiff, Int.reduceLT, Int.reduceLE, Int.reduceNeg, List.length_map, List.length_append, List.nil_append, List.cons_append, at_ok, at_exc, ts_ok, ts_exc, sSeq, sSet, sRet, sRetV, sIf, sNil, sRaise, sAug, sAppOwn, sExt, sAsg, sAsg2, sPar2, sPar3, sBrk, sFor, sSetIx, sTry, calmS, slOf, slA, retOk, fnRes, gIAdd, gICat, xVar, xC, xIf, xTest, xTru, xAnd, xOr, xNot, xAndV, xOrV, xChain, xTup, xLst, xSl, oSome, oNone, op1, op2, opN, opM1, opC, aCons, aNil, lift, g1, g2, dAll, gAdd, gLen_tup, gLen_bor, gLen_new, gLen_bz, wipeS, gIx_tup, gIx_bor, gIx_bz, kS, gEq_int, gNe_int, isi_tt, isi_ts, isi_ti, isi_st, isi_ss, isi_si, isi_it, isi_is, isi_ii, gSub_e, gDiv_e, gMod_e, gLt_e, gLe_e, gGt_e, gGe_e, gNeg, gIs, gIsNot, idR, gInt, gAbs, gTy, ty_int, ty_str, ty_tup, ty_bl, ty_non, intOf, strOf, tupOf, lstOf, seqOf, dctOf, truR, truD, truC, gNm, gNilD, gConsD, gTupD, itemsE, itemsS, itemsV, iE, iV, iRg1, iRevEn, iVs, seqV, seqE, List.getElem?_cons_zero, List.getElem?_cons_succ, List.set_cons_zero, List.set_cons_succ, List.length_cons, List.length_nil, Option.map_some, Option.map_none, if_true, decide_true, decide_false, Bool.false_eq_true, if_false, ite_true, ite_false, reduceIte, Nat.reduceAdd, reduceCtorEq, Bool.not_true, Bool.not_false]
      · simp only [hle, hg, hp, and_false, gMul_r (i := t') (j := 0) (by decide) (by decide), szl, Nat.reduceLeDiff, Int.reduceLT, Int.reduceLE, Int.reduceNeg, List.length_map, List.length_append, List.nil_append, List.cons_append, at_ok, at_exc, ts_ok, ts_exc, sSeq, sSet, sRet, sRetV, sIf, sNil, sRaise, sAug, sAppOwn, sExt, sAsg, sAsg2, sPar2, sPar3, sBrk, sFor, sSetIx, sTry, calmS, slOf, slA, retOk, fnRes, gIAdd, gICat, xVar, xC, xIf, xTest, xTru, xAnd, xOr, xNot, xAndV, xOrV, xChain, xTup, xLst, xSl, oSome, oNone, op1, op2, opN, opM1, opC, aCons, aNil, lift, g1, g2, dAll, gAdd, gLen_tup, gLen_bor, gLen_new, gLen_bz, wipeS, gIx_tup, gIx_bor, gIx_bz, kS, gEq_int, gNe_int, isi_tt, isi_ts, isi_ti, isi_st, isi_ss, isi_si, isi_it, isi_is, isi_ii, gSub_e, gDiv_e, gMod_e, gLt_e, gLe_e, gGt_e, gGe_e, gNeg, gIs, gIsNot, idR, gInt, gAbs, gTy, ty_int, ty_str, ty_tup, ty_bl, ty_non, intOf, strOf, tupOf, lstOf, seqOf, dctOf, truR, truD, truC, gNm, gNilD, gConsD, gTupD, itemsE, itemsS, itemsV, iE, iV, iRg1, iRevEn, iVs, seqV, seqE, List.getElem?_cons_zero, List.getElem?_cons_succ, List.set_cons_zero, List.set_cons_succ, List.length_cons, List.length_nil, Option.map_some, Option.map_none, if_true, decide_true, decide_false, Bool.false_eq_true, if_false, ite_true, ite_false, reduceIte, Nat.reduceAdd, reduceCtorEq, Bool.not_true, Bool.not_false]
        rw [← key]
    · simp only [hle, hg, hz, false_and, gMul_r (i := t') (j := x) (by omega) (by omega), szl, Nat.reduceLeDiff, Int.reduceLT, Int.reduceLE, Int.reduceNeg, List.length_map, List.length_append, List.nil_append, List.cons_append, at_ok, at_exc, ts_ok, ts_exc, sSeq, sSet, sRet, sRetV, sIf, sNil, sRaise, sAug, sAppOwn, sExt, sAsg, sAsg2, sPar2, sPar3, sBrk, sFor, sSetIx, sTry, calmS, slOf, slA, retOk, fnRes, gIAdd, gICat, xVar, xC, xIf, xTest, xTru, xAnd, xOr, xNot, xAndV, xOrV, xChain, xTup, xLst, xSl, oSome, oNone, op1, op2, opN, opM1, opC, aCons, aNil, lift, g1, g2, dAll, gAdd, gLen_tup, gLen_bor, gLen_new, gLen_bz, wipeS, gIx_tup, gIx_bor, gIx_bz, kS, gEq_int, gNe_int, isi_tt, isi_ts, isi_ti, isi_st, isi_ss, isi_si, isi_it, isi_is, isi_ii, gSub_e, gDiv_e, gMod_e, gLt_e, gLe_e, gGt_e, gGe_e, gNeg, gIs, gIsNot, idR, gInt, gAbs, gTy, ty_int, ty_str, ty_tup, ty_bl, ty_non, intOf, strOf, tupOf, lstOf, seqOf, dctOf, truR, truD, truC, gNm, gNilD, gConsD, gTupD, itemsE, itemsS, itemsV, iE, iV, iRg1, iRevEn, iVs, seqV, seqE, List.getElem?_cons_zero, List.getElem?_cons_succ, List.set_cons_zero, List.set_cons_succ, List.length_cons, List.length_nil, Option.map_some, Option.map_none, if_true, decide_true, decide_false, Bool.false_eq_true, if_false, ite_true, ite_false, reduceIte, Nat.reduceAdd, reduceCtorEq, Bool.not_true, Bool.not_false]
      rw [← key]
end Sh65
set_option Elab.async false
set_option linter.all false
set_option maxRecDepth 100000
set_option maxHeartbeats 4000000
namespace Sh65
open PySem Sh
/-! ### the module's reader of numbers -/
theorem num_loop (h : Hs) (b : Int) : ∀ (sfx pre : List Int) (n : Nat) (t k : Int), sfx.length < n → pre.length + sfx.length ≤ 16777216 → Byte sfx → (b : Int) ≤ pre.length →
    (∃ S', sWhile (xTru (xC (.bl true))) (sSeq (sIf (xTest (op2 gGe (xVar 1) (opN (g1 gLen) (aCons (xVar 0) aNil)))) (sRaise "Wrong" aNil) sNil) (sSeq (sAug gIAdd 2 (op2 gMul (xVar 3) (op2 gMod (op2 gIx (xVar 0) (xVar 1)) (xC (.int 128))))) (sSeq (sSet 3 (op2 gMul (xVar 3) (xC (.int 128)))) (sSeq (sAug gIAdd 1 (xC (.int 1))) (sIf (xTest (op2 gLt (op2 gIx (xVar 0) (op2 gSub (xVar 1) (xC (.int 1)))) (xC (.int 128)))) sBrk sNil))))) n
        [.d (.tup (I (pre ++ sfx))), .d (.int pre.length), .d (.int k), .d (.int t), .d (.int b)] h = some (.exc "Wrong" S' h) ∧ numA t k (decide ((pre.length : Int) ≤ b)) sfx = none)
    ∨ ∃ (t' k' x : Int) (pre' ys : List Int), sWhile (xTru (xC (.bl true))) (sSeq (sIf (xTest (op2 gGe (xVar 1) (opN (g1 gLen) (aCons (xVar 0) aNil)))) (sRaise "Wrong" aNil) sNil) (sSeq (sAug gIAdd 2 (op2 gMul (xVar 3) (op2 gMod (op2 gIx (xVar 0) (xVar 1)) (xC (.int 128))))) (sSeq (sSet 3 (op2 gMul (xVar 3) (xC (.int 128)))) (sSeq (sAug gIAdd 1 (xC (.int 1))) (sIf (xTest (op2 gLt (op2 gIx (xVar 0) (op2 gSub (xVar 1) (xC (.int 1)))) (xC (.int 128)))) sBrk sNil))))) n
        [.d (.tup (I (pre ++ sfx))), .d (.int pre.length), .d (.int k), .d (.int t), .d (.int b)] h = some (.nx [.d (.tup (I (pre ++ sfx))), .d (.int ((pre'.length : Int) + 1)), .d (.int k'), .d (.int t'), .d (.int b)] h)
      ∧ pre ++ sfx = pre' ++ x :: ys ∧ pre.length ≤ pre'.length ∧ 0 ≤ x ∧ x < 128 ∧ numA t k (decide ((pre.length : Int) ≤ b)) sfx = if x = 0 ∧ (b : Int) < pre'.length then none else some (k', ys)
  | _, _, 0, _, _, hn, _, _, _ => by omega
  | [], pre, n + 1, t, k, _, _, _, _ => by
    refine .inl ⟨[.d (.tup (I (pre ++ []))), .d (.int pre.length), .d (.int k), .d (.int t), .d (.int b)], ?_, rfl⟩
    unfold sWhile
    simp only [I, List.append_nil, show ((pre.length : Int) ≤ (pre.length : Int)) from Int.le_refl _, Nat.zero_le, szl, Nat.reduceLeDiff, Int.reduceLT, Int.reduceLE, Int.reduceNeg, List.length_map, List.length_append, List.nil_append, List.cons_append, at_ok, at_exc, ts_ok, ts_exc, sSeq, sSet, sRet, sRetV, sIf, sNil, sRaise, sAug, sAppOwn, sExt, sAsg, sAsg2, sPar2, sPar3, sBrk, sFor, sSetIx, sTry, calmS, slOf, slA, retOk, fnRes, gIAdd, gICat, xVar, xC, xIf, xTest, xTru, xAnd, xOr, xNot, xAndV, xOrV, xChain, xTup, xLst, xSl, oSome, oNone, op1, op2, opN, opM1, opC, aCons, aNil, lift, g1, g2, dAll, gAdd, gLen_tup, gLen_bor, gLen_new, gLen_bz, wipeS, gIx_tup, gIx_bor, gIx_bz, kS, gEq_int, gNe_int, isi_tt, isi_ts, isi_ti, isi_st, isi_ss, isi_si, isi_it, isi_is, isi_ii, gSub_e, gDiv_e, gMod_e, gLt_e, gLe_e, gGt_e, gGe_e, gNeg, gIs, gIsNot, idR, gInt, gAbs, gTy, ty_int, ty_str, ty_tup, ty_bl, ty_non, intOf, strOf, tupOf, lstOf, seqOf, dctOf, truR, truD, truC, gNm, gNilD, gConsD, gTupD, itemsE, itemsS, itemsV, iE, iV, iRg1, iRevEn, iVs, seqV, seqE, List.getElem?_cons_zero, List.getElem?_cons_succ, List.set_cons_zero, List.set_cons_succ, List.length_cons, List.length_nil, Option.map_some, Option.map_none, if_true, decide_true, decide_false, Bool.false_eq_true, if_false, ite_true, ite_false, reduceIte, Nat.reduceAdd, reduceCtorEq, Bool.not_true, Bool.not_false]
  | x :: sfx, pre, n + 1, t, k, hn, hl, hb, hpb => by
    have hx := hb x List.mem_cons_self
    have hg := get_mid pre sfx x
    have hlen : ¬ (((pre.length + (sfx.length + 1) : Nat) : Int) ≤ (pre.length : Int)) := by omega
    have hsub : (pre.length : Int) + 1 - 1 = pre.length := by omega
    rw [List.length_cons] at hn hl
    by_cases h1 : 128 ≤ x
    · have hm : x % 128 = x - 128 := by omega
      have IH := num_loop h b sfx (pre ++ [x]) n (t * 128) (k + t * (x - 128)) (by omega) (by rw [List.length_append]; show pre.length + 1 + sfx.length ≤ _; omega) (fun y hy => hb y (List.mem_cons_of_mem _ hy)) (by rw [List.length_append]; show b ≤ ((pre.length + 1 : Nat) : Int); omega)
      have ea : pre ++ [x] ++ sfx = pre ++ x :: sfx := by simp
      have ef : decide (((pre ++ [x]).length : Int) ≤ b) = false := by
        refine decide_eq_false ?_
        rw [List.length_append]; show ¬ (((pre.length + 1 : Nat) : Int) ≤ b); omega
      have el : (((pre ++ [x]).length : Nat) : Int) = (pre.length : Int) + 1 := by rw [List.length_append]; rfl
      have el2 : (pre ++ [x]).length = pre.length + 1 := by rw [List.length_append]; rfl
      have en : numA t k (decide ((pre.length : Int) ≤ b)) (x :: sfx) = numA (t * 128) (k + t * (x - 128)) false sfx := by rw [numA, if_pos h1]
      have h1' : ¬ (x < 128) := by omega
      rw [ea, ef, el] at IH
      rcases IH with ⟨S', e, e4⟩ | ⟨t', k', x', pre', ys, e, e2, e3, e5, e6, e4⟩
      · refine .inl ⟨S', ?_, by rw [en]; exact e4⟩
        unfold sWhile
        simp only [hlen, hg, hm, hsub, h1', gMul_r (i := t) (j := x - 128) (by omega) (by omega), gMul_r (i := t) (j := 128) (by omega) (by omega), e, szl, Nat.reduceLeDiff, Int.reduceLT, Int.reduceLE, Int.reduceNeg, List.length_map, List.length_append, List.nil_append, List.cons_append, at_ok, at_exc, ts_ok, ts_exc, sSeq, sSet, sRet, sRetV, sIf, sNil, sRaise, sAug, sAppOwn, sExt, sAsg, sAsg2, sPar2, sPar3, sBrk, sFor, sSetIx, sTry, calmS, slOf, slA, retOk, fnRes, gIAdd, gICat, xVar, xC, xIf, xTest, xTru, xAnd, xOr, xNot, xAndV, xOrV, xChain, xTup, xLst, xSl, oSome, oNone, op1, op2, opN, opM1, opC, aCons, aNil, lift, g1, g2, dAll, gAdd, gLen_tup, gLen_bor, gLen_new, gLen_bz, wipeS, gIx_tup, gIx_bor, gIx_bz, kS, gEq_int, gNe_int, isi_tt, isi_ts, isi_ti, isi_st, isi_ss, isi_si, isi_it, isi_is, isi_ii, gSub_e, gDiv_e, gMod_e, gLt_e, gLe_e, gGt_e, gGe_e, gNeg, gIs, gIsNot, idR, gInt, gAbs, gTy, ty_int, ty_str, ty_tup, ty_bl, ty_non, intOf, strOf, tupOf, lstOf, seqOf, dctOf, truR, truD, truC, gNm, gNilD, gConsD, gTupD, itemsE, itemsS, itemsV, iE, iV, iRg1, iRevEn, iVs, seqV, seqE, List.getElem?_cons_zero, List.getElem?_cons_succ, List.set_cons_zero, List.set_cons_succ, List.length_cons, List.length_nil, Option.map_some, Option.map_none, if_true, decide_true, decide_false, Bool.false_eq_true, if_false, ite_true, ite_false, reduceIte, Nat.reduceAdd, reduceCtorEq, Bool.not_true, Bool.not_false]
      · refine .inr ⟨t', k', x', pre', ys, ?_, e2, by omega, e5, e6, by rw [en]; exact e4⟩
        unfold sWhile
        simp only [hlen, hg, hm, hsub, h1', gMul_r (i := t) (j := x - 128) (by omega) (by omega), gMul_r (i := t) (j := 128) (by omega) (by omega), e, szl, Nat.reduceLeDiff, Int.reduceLT, Int.reduceLE, Int.reduceNeg, List.length_map, List.length_append, List.nil_append, List.cons_append, at_ok, at_exc, ts_ok, ts_exc, sSeq, sSet, sRet, sRetV, sIf, sNil, sRaise, sAug, sAppOwn, sExt, sAsg, sAsg2, sPar2, sPar3, sBrk, sFor, sSetIx, sTry, calmS, slOf, slA, retOk, fnRes, gIAdd, gICat, xVar, xC, xIf, xTest, xTru, xAnd, xOr, xNot, xAndV, xOrV, xChain, xTup, xLst, xSl, oSome, oNone, op1, op2, opN, opM1, opC, aCons, aNil, lift, g1, g2, dAll, gAdd, gLen_tup, gLen_bor, gLen_new, gLen_bz, wipeS, gIx_tup, gIx_bor, gIx_bz, kS, gEq_int, gNe_int, isi_tt, isi_ts, isi_ti, isi_st, isi_ss, isi_si, isi_it, isi_is, isi_ii, gSub_e, gDiv_e, gMod_e, gLt_e, gLe_e, gGt_e, gGe_e, gNeg, gIs, gIsNot, idR, gInt, gAbs, gTy, ty_int, ty_str, ty_tup, ty_bl, ty_non, intOf, strOf, tupOf, lstOf, seqOf, dctOf, truR, truD, truC, gNm, gNilD, gConsD, gTupD, itemsE, itemsS, itemsV, iE, iV, iRg1, iRevEn, iVs, seqV, seqE, List.getElem?_cons_zero, List.getElem?_cons_succ, List.set_cons_zero, List.set_cons_succ, List.length_cons, List.length_nil, Option.map_some, Option.map_none, if_true, decide_true, decide_false, Bool.false_eq_true, if_false, ite_true, ite_false, reduceIte, Nat.reduceAdd, reduceCtorEq, Bool.not_true, Bool.not_false]
    · have hm : x % 128 = x := by omega
      refine .inr ⟨t * 128, k + t * x, x, pre, sfx, ?_, rfl, Nat.le_refl _, hx.1, by omega, ?_⟩
      · unfold sWhile
        simp only [hlen, hg, hm, hsub, show x < 128 from by omega, gMul_r (i := t) (j := x) (by omega) (by omega), gMul_r (i := t) (j := 128) (by omega) (by omega), szl, Nat.reduceLeDiff, Int.reduceLT, Int.reduceLE, Int.reduceNeg, List.length_map, List.length_append, List.nil_append, List.cons_append, at_ok, at_exc, ts_ok, ts_exc, sSeq, sSet, sRet, sRetV, sIf, sNil, sRaise, sAug, sAppOwn, sExt, sAsg, sAsg2, sPar2, sPar3, sBrk, sFor, sSetIx, sTry, calmS, slOf, slA, retOk, fnRes, gIAdd, gICat, xVar, xC, xIf, xTest, xTru, xAnd, xOr, xNot, xAndV, xOrV, xChain, xTup, xLst, xSl, oSome, oNone, op1, op2, opN, opM1, opC, aCons, aNil, lift, g1, g2, dAll, gAdd, gLen_tup, gLen_bor, gLen_new, gLen_bz, wipeS, gIx_tup, gIx_bor, gIx_bz, kS, gEq_int, gNe_int, isi_tt, isi_ts, isi_ti, isi_st, isi_ss, isi_si, isi_it, isi_is, isi_ii, gSub_e, gDiv_e, gMod_e, gLt_e, gLe_e, gGt_e, gGe_e, gNeg, gIs, gIsNot, idR, gInt, gAbs, gTy, ty_int, ty_str, ty_tup, ty_bl, ty_non, intOf, strOf, tupOf, lstOf, seqOf, dctOf, truR, truD, truC, gNm, gNilD, gConsD, gTupD, itemsE, itemsS, itemsV, iE, iV, iRg1, iRevEn, iVs, seqV, seqE, List.getElem?_cons_zero, List.getElem?_cons_succ, List.set_cons_zero, List.set_cons_succ, List.length_cons, List.length_nil, Option.map_some, Option.map_none, if_true, decide_true, decide_false, Bool.false_eq_true, if_false, ite_true, ite_false, reduceIte, Nat.reduceAdd, reduceCtorEq, Bool.not_true, Bool.not_false]
      · rw [numA, if_neg h1]
        have : (decide ((pre.length : Int) ≤ b) = false) = (b < pre.length) := by rw [decide_eq_false_iff_not]; exact propext (by omega)
        simp only [this]
theorem ev_number_at (n : Nat) (pre sfx : List Int) (h : Hs) (hl : pre.length + sfx.length < 1000000) (hb : Byte sfx) : run (n + 1) .f_number_at [.d (.tup (I (pre ++ sfx))), .d (.int pre.length)] h
    = match num sfx with
      | none => some (.exc "Wrong" h)
      | some (v, ys) => some (.ok (.d (.tup [.int v, .int (((pre ++ sfx).length - ys.length : Nat) : Int)])) h) := by
  rw [r_f_number_at]
  unfold b_f_number_at
  have L := num_loop h pre.length sfx pre wN 1 0 (by unfold wN; omega) (by omega) hb (Int.le_refl _)
  rw [decide_eq_true (Int.le_refl (pre.length : Int))] at L
  have st1 : ∀ g : SX, sSeq (sPar3 2 3 4 (aCons (xC (.int 0)) (aCons (xC (.int 1)) (aCons (xVar 1) aNil)))) g [slA (.d (.tup (I (pre ++ sfx)))), slA (.d (.int pre.length)), .none, .none, .none] h = g [.d (.tup (I (pre ++ sfx))), .d (.int pre.length), .d (.int 0), .d (.int 1), .d (.int pre.length)] h := fun g => sSeq_nx (by simp only [szl, Nat.reduceLeDiff, Int.reduceLT, Int.reduceLE, Int.reduceNeg, List.length_map, List.length_append, List.nil_append, List.cons_append, at_ok, at_exc, ts_ok, ts_exc, sSeq, sSet, sRet, sRetV, sIf, sNil, sRaise, sAug, sAppOwn, sExt, sAsg, sAsg2, sPar2, sPar3, sBrk, sFor, sSetIx, sTry, calmS, slOf, slA, retOk, fnRes, gIAdd, gICat, xVar, xC, xIf, xTest, xTru, xAnd, xOr, xNot, xAndV, xOrV, xChain, xTup, xLst, xSl, oSome, oNone, op1, op2, opN, opM1, opC, aCons, aNil, lift, g1, g2, dAll, gAdd, gLen_tup, gLen_bor, gLen_new, gLen_bz, wipeS, gIx_tup, gIx_bor, gIx_bz, kS, gEq_int, gNe_int, isi_tt, isi_ts, isi_ti, isi_st, isi_ss, isi_si, isi_it, isi_is, isi_ii, gSub_e, gDiv_e, gMod_e, gLt_e, gLe_e, gGt_e, gGe_e, gNeg, gIs, gIsNot, idR, gInt, gAbs, gTy, ty_int, ty_str, ty_tup, ty_bl, ty_non, intOf, strOf, tupOf, lstOf, seqOf, dctOf, truR, truD, truC, gNm, gNilD, gConsD, gTupD, itemsE, itemsS, itemsV, iE, iV, iRg1, iRevEn, iVs, seqV, seqE, List.getElem?_cons_zero, List.getElem?_cons_succ, List.set_cons_zero, List.set_cons_succ, List.length_cons, List.length_nil, Option.map_some, Option.map_none, if_true, decide_true, decide_false, Bool.false_eq_true, if_false, ite_true, ite_false, reduceIte, Nat.reduceAdd, reduceCtorEq, Bool.not_true, Bool.not_false])
  rw [st1]
  unfold num
  rcases L with ⟨S', e, e4⟩ | ⟨t', k', x, pre', ys, e, e2, e3, x0, x1, e5⟩
  · rw [sSeq_exc e, e4] <;> rfl
  · rw [sSeq_nx e, e2, e5]
    have hg := get_mid pre' ys x
    have key : ((pre'.length : Int) + 1) = (((pre'.length + (ys.length + 1)) - ys.length : Nat) : Int) := by omega
    have hsub : (pre'.length : Int) + 1 - 1 = pre'.length := by omega
    by_cases hz : x = 0
    · subst hz
      by_cases hp : (pre.length : Int) < pre'.length
      · simp only [hsub, hg, hp, and_self, show (1 : Int) < (pre'.length : Int) + 1 - pre.length from by omega, Nat.zero_le, szl, Nat.reduceLeDiff, Int.reduceLT, Int.reduceLE, Int.reduceNeg, List.length_map, List.length_append, List.nil_append, List.cons_append, at_ok, at_exc, ts_ok, ts_exc, sSeq, sSet, sRet, sRetV, sIf, sNil, sRaise, sAug, sAppOwn, sExt, sAsg, sAsg2, sPar2, sPar3, sBrk, sFor, sSetIx, sTry, calmS, slOf, slA, retOk, fnRes, gIAdd, gICat, xVar, xC, xIf, xTest, xTru, xAnd, xOr, xNot, xAndV, xOrV, xChain, xTup, xLst, xSl, oSome, oNone, op1, op2, opN, opM1, opC, aCons, aNil, lift, g1, g2, dAll, gAdd, gLen_tup, gLen_bor, gLen_new, gLen_bz, wipeS, gIx_tup, gIx_bor, gIx_bz, kS, gEq_int, gNe_int, isi_tt, isi_ts, isi_ti, isi_st, isi_ss, isi_si, isi_it, isi_is, isi_ii, gSub_e, gDiv_e, gMod_e, gLt_e, gLe_e, gGt_e, gGe_e, gNeg, gIs, gIsNot, idR, gInt, gAbs, gTy, ty_int, ty_str, ty_tup, ty_bl, ty_non, intOf, strOf, tupOf, lstOf, seqOf, dctOf, truR, truD, truC, gNm, gNilD, gConsD, gTupD, itemsE, itemsS, itemsV, iE, iV, iRg1, iRevEn, iVs, seqV, seqE, List.getElem?_cons_zero, List.getElem?_cons_succ, List.set_cons_zero, List.set_cons_succ, List.length_cons, List.length_nil, Option.map_some, Option.map_none, if_true, decide_true, decide_false, Bool.false_eq_true, if_false, ite_true, ite_false, reduceIte, Nat.reduceAdd, reduceCtorEq, Bool.not_true, Bool.not_false]
      · simp only [hsub, hg, hp, and_false, show ¬ ((1 : Int) < (pre'.length : Int) + 1 - pre.length) from by omega, szl, Nat.reduceLeDiff, Int.reduceLT, Int.reduceLE, Int.reduceNeg, List.length_map, List.length_append, List.nil_append, List.cons_append, at_ok, at_exc, ts_ok, ts_exc, sSeq, sSet, sRet, sRetV, sIf, sNil, sRaise, sAug, sAppOwn, sExt, sAsg, sAsg2, sPar2, sPar3, sBrk, sFor, sSetIx, sTry, calmS, slOf, slA, retOk, fnRes, gIAdd, gICat, xVar, xC, xIf, xTest, xTru, xAnd, xOr, xNot, xAndV, xOrV, xChain, xTup, xLst, xSl, oSome, oNone, op1, op2, opN, opM1, opC, aCons, aNil, lift, g1, g2, dAll, gAdd, gLen_tup, gLen_bor, gLen_new, gLen_bz, wipeS, gIx_tup, gIx_bor, gIx_bz, kS, gEq_int, gNe_int, isi_tt, isi_ts, isi_ti, isi_st, isi_ss, isi_si, isi_it, isi_is, isi_ii, gSub_e, gDiv_e, gMod_e, gLt_e, gLe_e, gGt_e, gGe_e, gNeg, gIs, gIsNot, idR, gInt, gAbs, gTy, ty_int, ty_str, ty_tup, ty_bl, ty_non, intOf, strOf, tupOf, lstOf, seqOf, dctOf, truR, truD, truC, gNm, gNilD, gConsD, gTupD, itemsE, itemsS, itemsV, iE, iV, iRg1, iRevEn, iVs, seqV, seqE, List.getElem?_cons_zero, List.getElem?_cons_succ, List.set_cons_zero, List.set_cons_succ, List.length_cons, List.length_nil, Option.map_some, Option.map_none, if_true, decide_true, decide_false, Bool.false_eq_true, if_false, ite_true, ite_false, reduceIte, Nat.reduceAdd, reduceCtorEq, Bool.not_true, Bool.not_false]
        rw [← key]
    · simp only [hsub, hg, hz, false_and, szl, Nat.reduceLeDiff, Int.reduceLT, Int.reduceLE, Int.reduceNeg, List.length_map, List.length_append, List.nil_append, List.cons_append, at_ok, at_exc, ts_ok, ts_exc, sSeq, sSet, sRet, sRetV, sIf, sNil, sRaise, sAug, sAppOwn, sExt, sAsg, sAsg2, sPar2, sPar3, sBrk, sFor, sSetIx, sTry, calmS, slOf, slA, retOk, fnRes, gIAdd, gICat, xVar, xC, xIf, xTest, xTru, xAnd, xOr, xNot, xAndV, xOrV, xChain, xTup, xLst, xSl, oSome, oNone, op1, op2, opN, opM1, opC, aCons, aNil, lift, g1, g2, dAll, gAdd, gLen_tup, gLen_bor, gLen_new, gLen_bz, wipeS, gIx_tup, gIx_bor, gIx_bz, kS, gEq_int, gNe_int, isi_tt, isi_ts, isi_ti, isi_st, isi_ss, isi_si, isi_it, isi_is, isi_ii, gSub_e, gDiv_e, gMod_e, gLt_e, gLe_e, gGt_e, gGe_e, gNeg, gIs, gIsNot, idR, gInt, gAbs, gTy, ty_int, ty_str, ty_tup, ty_bl, ty_non, intOf, strOf, tupOf, lstOf, seqOf, dctOf, truR, truD, truC, gNm, gNilD, gConsD, gTupD, itemsE, itemsS, itemsV, iE, iV, iRg1, iRevEn, iVs, seqV, seqE, List.getElem?_cons_zero, List.getElem?_cons_succ, List.set_cons_zero, List.set_cons_succ, List.length_cons, List.length_nil, Option.map_some, Option.map_none, if_true, decide_true, decide_false, Bool.false_eq_true, if_false, ite_true, ite_false, reduceIte, Nat.reduceAdd, reduceCtorEq, Bool.not_true, Bool.not_false]
      rw [← key]
end Sh65
set_option Elab.async false
set_option linter.all false
set_option maxRecDepth 100000
set_option maxHeartbeats 4000000
namespace Sh65
open PySem Sh
/-! ### reading a thing -/
def unzz (k : Int) : Int := if k % 2 = 0 then k / 2 else -(k + 1) / 2
def rds (f : List Int → Option (Option (D × List Int))) : Nat → List D → List Int → Option (Option (List D × List Int))
  | 0, acc, ys => some (some (acc, ys))
  | k + 1, acc, ys => match f ys with
    | none => none
    | some none => some none
    | some (some (d, zs)) => rds f k (acc ++ [d]) zs
def rd : Nat → List Int → Option (Option (D × List Int))
  | 0, _ => none
  | _ + 1, [] => some none
  | n + 1, x :: xs => if x = 1 ∨ x = 2 ∨ x = 3 then
      match num xs with
      | none => some none
      | some (k, ys) => if x = 1 then some (some (.int (unzz k), ys))
        else if (ys.length : Int) < k then some none
        else if x = 2 then (if (ys.take k.toNat).any (fun s => decide (44 ≤ s)) = true then some none else some (some (.str (txt ((ys.take k.toNat).map Int.toNat)), ys.drop k.toNat)))
        else match rds (rd n) k.toNat [] ys with
          | none => none
          | some none => some none
          | some (some (ds, zs)) => some (some (.tup ds, zs))
    else some none
theorem rds_sfx {f : List Int → Option (Option (D × List Int))} (hf : ∀ ys d zs, f ys = some (some (d, zs)) → zs.length < ys.length ∧ ∃ u, ys = u ++ zs) : ∀ (k : Nat) (acc : List D) (ys : List Int) (ds : List D) (zs : List Int), rds f k acc ys = some (some (ds, zs)) → zs.length + k ≤ ys.length ∧ ∃ u, ys = u ++ zs
  | 0, acc, ys, ds, zs, h => by
    cases h
    exact ⟨Nat.le_refl _, [], rfl⟩
  | k + 1, acc, ys, ds, zs, h => by
    rw [rds] at h
    split at h
    · cases h
    · cases h
    · rename_i d ws e
      obtain ⟨h1, u, h2⟩ := hf _ _ _ e
      obtain ⟨h3, u2, h4⟩ := rds_sfx hf k _ _ _ _ h
      exact ⟨by omega, u ++ u2, by rw [h2, h4, List.append_assoc]⟩
theorem rd_sfx : ∀ (n : Nat) (ys : List Int) (d : D) (zs : List Int), rd n ys = some (some (d, zs)) → zs.length < ys.length ∧ ∃ u, ys = u ++ zs
  | 0, _, _, _, h => by cases h
  | n + 1, [], _, _, h => by cases h
  | n + 1, x :: xs, d, zs, h => by
    rw [rd] at h
    split at h
    · cases hn : num xs with
      | none => rw [hn] at h; cases h
      | some p =>
        obtain ⟨k, ys⟩ := p
        rw [hn] at h
        obtain ⟨l1, pre, e1⟩ := numA_len xs 1 0 true hn
        simp only at h
        split at h
        · cases h
          exact ⟨by rw [List.length_cons]; omega, x :: pre, by rw [e1]; rfl⟩
        · split at h
          · cases h
          · split at h
            · split at h
              · cases h
              · cases h
                exact ⟨by rw [List.length_drop, List.length_cons]; omega, x :: pre ++ ys.take k.toNat, by rw [List.append_assoc, List.take_append_drop, e1]; rfl⟩
            · split at h
              · cases h
              · cases h
              · rename_i ds ws e
                cases h
                obtain ⟨h3, u, h4⟩ := rds_sfx (rd_sfx n) _ _ _ _ _ e
                exact ⟨by rw [List.length_cons]; omega, x :: pre ++ u, by rw [List.append_assoc, ← h4, e1]; rfl⟩
    · cases h
theorem Byte.app {u zs : List Int} (h : Byte (u ++ zs)) : Byte zs := fun x hx => h x (List.mem_append_right _ hx)
/-! ### what the reader does with slices, texts -/
theorem notIn3 (x : Int) (h : Hs) : gNotIn (.d (.int x)) (.d (.tup [.int 1, .int 2, .int 3])) h = some (.d (.bl (!decide (x = 1 ∨ x = 2 ∨ x = 3)))) := by
  have e : inR (.d (.int x)) (.d (.tup [.int 1, .int 2, .int 3])) h = some (inD (.int x) [.int 1, .int 2, .int 3]) := rfl
  have e2 : inD (.int x) [.int 1, .int 2, .int 3] = decide (x = 1 ∨ x = 2 ∨ x = 3) := by
    simp only [inD, List.any_cons, List.any_nil, eqF, Bool.or_false]
    rw [Bool.eq_iff_iff]
    simp only [Bool.or_eq_true, beq_iff_eq, decide_eq_true_eq]
    omega
  unfold gNotIn
  rw [e, e2] <;> rfl
theorem gSl_tup (xs : List D) (lo hi : Option Int) (h : Hs) : gSl (.d (.tup xs)) lo hi h = some (.d (.tup (cutD xs lo hi))) := rfl
theorem cut_mid (pre ys : List Int) (k : Nat) : cutD (I (pre ++ ys)) (some (pre.length : Int)) (some ((pre.length : Int) + (k : Int))) = I (ys.take k) := by
  unfold cutD
  rw [show (pre.length : Int) + (k : Int) = ((pre.length + k : Nat) : Int) from by omega, HT.sIx_nat, HT.sIx_nat, I_len, List.length_append, Nat.min_eq_left (show pre.length ≤ pre.length + ys.length by omega)]
  rw [I, ← List.map_drop, List.drop_left, ← List.map_take, I]
  congr 1
  by_cases hk : k ≤ ys.length
  · rw [Nat.min_eq_left (by omega)]
    congr 1
    omega
  · rw [Nat.min_eq_right (by omega), List.take_of_length_le (by omega), List.take_of_length_le (by omega)]
theorem gLen_S (h : Hs) : gLen (.d (.str k_SIGNS)) h = some (.d (.int 44)) := by
  show (if k_SIGNS.length ≤ sizeLine then some (R.d (.int (k_SIGNS.length : Nat))) else none) = _
  rw [if_pos (by decide +kernel), show k_SIGNS.length = 44 from by decide +kernel] <;> rfl
theorem strs_txt : ∀ js : List Nat, strsD (js.map fun j => D.str (txt [j])) = some (js.map fun j => txt [j])
  | [] => rfl
  | j :: js => by
    rw [List.map_cons, strsD, strs_txt js]
    rfl
theorem joinL_nil : ∀ ls : List (List Nat), TL.joinL [] ls = ls.flatten
  | [] => rfl
  | [p] => by simp [TL.joinL]
  | p :: q :: r => by rw [TL.joinL, joinL_nil (q :: r)]; simp
theorem flat_one : ∀ js : List Nat, (js.map fun j => [sgc j]).flatten = js.map sgc
  | [] => rfl
  | j :: js => by rw [List.map_cons, List.flatten_cons, flat_one js]; rfl
theorem sum_one : ∀ js : List Nat, ((js.map fun j => txt [j]).map fun (y : Str) => y.length).sum = js.length
  | [] => rfl
  | j :: js => by
    rw [List.map_cons, List.map_cons, List.sum_cons, sum_one js, List.length_cons, txt_len]
    show 1 + js.length = _
    omega
theorem join_txt (js : List Nat) (h : Hs) (hl : js.length ≤ 16777216) : gJoin "" (.new (.lst (js.map fun j => D.str (txt [j])))) h = some (.d (.str (txt js))) := by
  have e0 : seqOf (.new (.lst (js.map fun j => D.str (txt [j])))) h = some (js.map fun j => D.str (txt [j])) := rfl
  unfold gJoin
  rw [e0]
  show (match strsD (js.map fun j => D.str (txt [j])) with
    | some ys => if (ys.map fun (y : Str) => y.length).sum + ys.length * (("" : Str)).length ≤ 16777216 then some (R.d (.str (Txt.join "" ys))) else none
    | none => none) = _
  rw [strs_txt]
  show (if ((js.map fun j => txt [j]).map fun (y : Str) => y.length).sum + (js.map fun j => txt [j]).length * (("" : Str)).length ≤ 16777216 then some (R.d (.str (Txt.join "" (js.map fun j => txt [j])))) else none) = _
  have e2 : (("" : Str)).length = 0 := rfl
  rw [sum_one, e2, Nat.mul_zero, if_pos (by omega)]
  have e3 : (js.map fun j => txt [j]) = (js.map fun j => [sgc j]).map _root_.SX.S := by
    rw [List.map_map]
    exact List.map_congr_left fun j _ => rfl
  have e4 : Txt.join "" (js.map fun j => txt [j]) = txt js := by
    rw [e3]
    refine (_root_.SX.join_S [] _).trans ?_
    rw [joinL_nil, flat_one]
    rfl
  rw [e4]
end Sh65
set_option Elab.async false
set_option linter.all false
set_option maxRecDepth 100000
set_option maxHeartbeats 4000000
namespace Sh65
open PySem Sh
/-- what the module's reader gives -/
def res (row : List Int) (r : Option (D × List Int)) (h : Hs) : Option (Rs R) := match r with
  | none => some (.exc "Wrong" h)
  | some (d, zs) => some (.ok (.d (.tup [d, .int ((row.length - zs.length : Nat) : Int)])) h)
theorem any_ge (s0 s1 s2 s3 s5 s6 s7 : Sl) (h : Hs) : ∀ bs : List Int, anyL true (gNm 4) xYes (op2 gGe (xVar 4) (opN (g1 gLen) (aCons (xC (.str k_SIGNS)) aNil))) [s0, s1, s2, s3, .none, s5, s6, s7] (I bs) h = some (bs.any fun s => decide (44 ≤ s), h)
  | [] => rfl
  | b :: bs => by
    have e := any_ge s0 s1 s2 s3 s5 s6 s7 h bs
    rw [I, List.map_cons, anyL]
    by_cases hb : 44 ≤ b
    · simp only [xYes, gLen_S, hb, List.any_cons, Bool.true_or, szl, Nat.reduceLeDiff, Int.reduceLT, Int.reduceLE, Int.reduceNeg, List.length_map, List.length_append, List.nil_append, List.cons_append, at_ok, at_exc, ts_ok, ts_exc, sSeq, sSet, sRet, sRetV, sIf, sNil, sRaise, sAug, sAppOwn, sExt, sAsg, sAsg2, sPar2, sPar3, sBrk, sFor, sSetIx, sTry, calmS, slOf, slA, retOk, fnRes, gIAdd, gICat, xVar, xC, xIf, xTest, xTru, xAnd, xOr, xNot, xAndV, xOrV, xChain, xTup, xLst, xSl, oSome, oNone, op1, op2, opN, opM1, opC, aCons, aNil, lift, g1, g2, dAll, gAdd, gLen_tup, gLen_bor, gLen_new, gLen_bz, wipeS, gIx_tup, gIx_bor, gIx_bz, kS, gEq_int, gNe_int, isi_tt, isi_ts, isi_ti, isi_st, isi_ss, isi_si, isi_it, isi_is, isi_ii, gSub_e, gDiv_e, gMod_e, gLt_e, gLe_e, gGt_e, gGe_e, gNeg, gIs, gIsNot, idR, gInt, gAbs, gTy, ty_int, ty_str, ty_tup, ty_bl, ty_non, intOf, strOf, tupOf, lstOf, seqOf, dctOf, truR, truD, truC, gNm, gNilD, gConsD, gTupD, itemsE, itemsS, itemsV, iE, iV, iRg1, iRevEn, iVs, seqV, seqE, List.getElem?_cons_zero, List.getElem?_cons_succ, List.set_cons_zero, List.set_cons_succ, List.length_cons, List.length_nil, Option.map_some, Option.map_none, if_true, decide_true, decide_false, Bool.false_eq_true, if_false, ite_true, ite_false, reduceIte, Nat.reduceAdd, reduceCtorEq, Bool.not_true, Bool.not_false]
    · simp only [xYes, gLen_S, hb, e, List.any_cons, Bool.false_or, szl, Nat.reduceLeDiff, Int.reduceLT, Int.reduceLE, Int.reduceNeg, List.length_map, List.length_append, List.nil_append, List.cons_append, at_ok, at_exc, ts_ok, ts_exc, sSeq, sSet, sRet, sRetV, sIf, sNil, sRaise, sAug, sAppOwn, sExt, sAsg, sAsg2, sPar2, sPar3, sBrk, sFor, sSetIx, sTry, calmS, slOf, slA, retOk, fnRes, gIAdd, gICat, xVar, xC, xIf, xTest, xTru, xAnd, xOr, xNot, xAndV, xOrV, xChain, xTup, xLst, xSl, oSome, oNone, op1, op2, opN, opM1, opC, aCons, aNil, lift, g1, g2, dAll, gAdd, gLen_tup, gLen_bor, gLen_new, gLen_bz, wipeS, gIx_tup, gIx_bor, gIx_bz, kS, gEq_int, gNe_int, isi_tt, isi_ts, isi_ti, isi_st, isi_ss, isi_si, isi_it, isi_is, isi_ii, gSub_e, gDiv_e, gMod_e, gLt_e, gLe_e, gGt_e, gGe_e, gNeg, gIs, gIsNot, idR, gInt, gAbs, gTy, ty_int, ty_str, ty_tup, ty_bl, ty_non, intOf, strOf, tupOf, lstOf, seqOf, dctOf, truR, truD, truC, gNm, gNilD, gConsD, gTupD, itemsE, itemsS, itemsV, iE, iV, iRg1, iRevEn, iVs, seqV, seqE, List.getElem?_cons_zero, List.getElem?_cons_succ, List.set_cons_zero, List.set_cons_succ, List.length_cons, List.length_nil, Option.map_some, Option.map_none, if_true, decide_true, decide_false, Bool.false_eq_true, if_false, ite_true, ite_false, reduceIte, Nat.reduceAdd, reduceCtorEq, Bool.not_true, Bool.not_false]
theorem lc_sgn (s0 s1 s2 s3 s5 s6 s7 : Sl) (h : Hs) : ∀ (bs : List Int) (q : Nat), Byte bs → (∀ b ∈ bs, b < 44) → q + bs.length ≤ 16777216 → lcL (gNm 4) xYes (op2 gIx (xC (.str k_SIGNS)) (xVar 4)) [s0, s1, s2, s3, .none, s5, s6, s7] (I bs) q h = some ((bs.map Int.toNat).map fun j => D.str (txt [j]), h)
  | [], _, _, _, _ => rfl
  | b :: bs, q, hb, h4, hq => by
    rw [List.length_cons] at hq
    have e := lc_sgn s0 s1 s2 s3 s5 s6 s7 h bs (q + 1) (fun x hx => hb x (List.mem_cons_of_mem _ hx)) (fun x hx => h4 x (List.mem_cons_of_mem _ hx)) (by omega)
    have b0 := (hb b List.mem_cons_self).1
    have b1 := h4 b List.mem_cons_self
    obtain ⟨j, rfl⟩ : ∃ j : Nat, b = (j : Int) := ⟨b.toNat, by omega⟩
    have hj : j < 44 := by omega
    rw [I, List.map_cons, lcL]
    simp only [xYes, gIx_SG hj, e, show q < 16777216 from by omega, List.map_cons, Int.toNat_natCast, szl, Nat.reduceLeDiff, Int.reduceLT, Int.reduceLE, Int.reduceNeg, List.length_map, List.length_append, List.nil_append, List.cons_append, at_ok, at_exc, ts_ok, ts_exc, sSeq, sSet, sRet, sRetV, sIf, sNil, sRaise, sAug, sAppOwn, sExt, sAsg, sAsg2, sPar2, sPar3, sBrk, sFor, sSetIx, sTry, calmS, slOf, slA, retOk, fnRes, gIAdd, gICat, xVar, xC, xIf, xTest, xTru, xAnd, xOr, xNot, xAndV, xOrV, xChain, xTup, xLst, xSl, oSome, oNone, op1, op2, opN, opM1, opC, aCons, aNil, lift, g1, g2, dAll, gAdd, gLen_tup, gLen_bor, gLen_new, gLen_bz, wipeS, gIx_tup, gIx_bor, gIx_bz, kS, gEq_int, gNe_int, isi_tt, isi_ts, isi_ti, isi_st, isi_ss, isi_si, isi_it, isi_is, isi_ii, gSub_e, gDiv_e, gMod_e, gLt_e, gLe_e, gGt_e, gGe_e, gNeg, gIs, gIsNot, idR, gInt, gAbs, gTy, ty_int, ty_str, ty_tup, ty_bl, ty_non, intOf, strOf, tupOf, lstOf, seqOf, dctOf, truR, truD, truC, gNm, gNilD, gConsD, gTupD, itemsE, itemsS, itemsV, iE, iV, iRg1, iRevEn, iVs, seqV, seqE, List.getElem?_cons_zero, List.getElem?_cons_succ, List.set_cons_zero, List.set_cons_succ, List.length_cons, List.length_nil, Option.map_some, Option.map_none, if_true, decide_true, decide_false, Bool.false_eq_true, if_false, ite_true, ite_false, reduceIte, Nat.reduceAdd, reduceCtorEq, Bool.not_true, Bool.not_false]
theorem parts_loop (F : Fd) (m : Nat) (row : List Int) (h : Hs) (s2 s3 s4 : Sl) (hF : ∀ (pre ys : List Int), row = pre ++ ys → ∀ r, rd m ys = some r → F [.d (.tup (I row)), .d (.int (pre.length : Nat))] h = res row r h) :
    ∀ (k p : Nat) (acc : List D) (pre ys : List Int) (s6 s7 : Sl) (r : Option (List D × List Int)), row = pre ++ ys → acc.length + k ≤ 16777216 → rds (rd m) k acc ys = some r →
      match r with
      | none => ∃ S', forL (gNm 6) (sSeq (sAsg (gTupD 2 (gConsD (gNm 7) (gConsD (gNm 1) gNilD))) (opC 2 F (aCons (xVar 0) (aCons (xVar 1) aNil)))) (sAug gICat 5 (xTup (aCons (xVar 7) aNil)))) (rng p k) [.d (.tup (I row)), .d (.int (pre.length : Nat)), s2, s3, s4, .d (.tup acc), s6, s7] h = some (.exc "Wrong" S' h)
      | some (ds, zs) => ∃ s6' s7', forL (gNm 6) (sSeq (sAsg (gTupD 2 (gConsD (gNm 7) (gConsD (gNm 1) gNilD))) (opC 2 F (aCons (xVar 0) (aCons (xVar 1) aNil)))) (sAug gICat 5 (xTup (aCons (xVar 7) aNil)))) (rng p k) [.d (.tup (I row)), .d (.int (pre.length : Nat)), s2, s3, s4, .d (.tup acc), s6, s7] h
          = some (.nx [.d (.tup (I row)), .d (.int ((row.length - zs.length : Nat) : Int)), s2, s3, s4, .d (.tup ds), s6', s7'] h)
  | 0, p, acc, pre, ys, s6, s7, r, hrow, hl, hr => by
    rw [rds] at hr
    cases hr
    have : row.length - ys.length = pre.length := by rw [hrow, List.length_append]; omega
    exact ⟨s6, s7, by rw [this]; rfl⟩
  | k + 1, p, acc, pre, ys, s6, s7, r, hrow, hl, hr => by
    rw [rds] at hr
    split at hr
    · cases hr
    · rename_i e
      cases hr
      have eF := hF pre ys hrow _ e
      refine ⟨[.d (.tup (I row)), .d (.int (pre.length : Nat)), s2, s3, s4, .d (.tup acc), .d (.int p), s7], ?_⟩
      rw [rng_succ, forL]
      simp only [eF, res, szl, Nat.reduceLeDiff, Int.reduceLT, Int.reduceLE, Int.reduceNeg, List.length_map, List.length_append, List.nil_append, List.cons_append, at_ok, at_exc, ts_ok, ts_exc, sSeq, sSet, sRet, sRetV, sIf, sNil, sRaise, sAug, sAppOwn, sExt, sAsg, sAsg2, sPar2, sPar3, sBrk, sFor, sSetIx, sTry, calmS, slOf, slA, retOk, fnRes, gIAdd, gICat, xVar, xC, xIf, xTest, xTru, xAnd, xOr, xNot, xAndV, xOrV, xChain, xTup, xLst, xSl, oSome, oNone, op1, op2, opN, opM1, opC, aCons, aNil, lift, g1, g2, dAll, gAdd, gLen_tup, gLen_bor, gLen_new, gLen_bz, wipeS, gIx_tup, gIx_bor, gIx_bz, kS, gEq_int, gNe_int, isi_tt, isi_ts, isi_ti, isi_st, isi_ss, isi_si, isi_it, isi_is, isi_ii, gSub_e, gDiv_e, gMod_e, gLt_e, gLe_e, gGt_e, gGe_e, gNeg, gIs, gIsNot, idR, gInt, gAbs, gTy, ty_int, ty_str, ty_tup, ty_bl, ty_non, intOf, strOf, tupOf, lstOf, seqOf, dctOf, truR, truD, truC, gNm, gNilD, gConsD, gTupD, itemsE, itemsS, itemsV, iE, iV, iRg1, iRevEn, iVs, seqV, seqE, List.getElem?_cons_zero, List.getElem?_cons_succ, List.set_cons_zero, List.set_cons_succ, List.length_cons, List.length_nil, Option.map_some, Option.map_none, if_true, decide_true, decide_false, Bool.false_eq_true, if_false, ite_true, ite_false, reduceIte, Nat.reduceAdd, reduceCtorEq, Bool.not_true, Bool.not_false]
    · rename_i d zs e
      have eF := hF pre ys hrow _ e
      obtain ⟨h1, u, h2⟩ := rd_sfx m _ _ _ e
      have hrow2 : row = (pre ++ u) ++ zs := by rw [hrow, h2, List.append_assoc]
      have hp : row.length - zs.length = (pre ++ u).length := by rw [hrow2, List.length_append]; omega
      have IH := parts_loop F m row h s2 s3 s4 hF k (p + 1) (acc ++ [d]) (pre ++ u) zs (.d (.int p)) (.d d) r hrow2 (by rw [List.length_append]; show acc.length + 1 + k ≤ _; omega) hr
      have hs : acc.length + 1 ≤ 16777216 := by omega
      have key : forL (gNm 6) (sSeq (sAsg (gTupD 2 (gConsD (gNm 7) (gConsD (gNm 1) gNilD))) (opC 2 F (aCons (xVar 0) (aCons (xVar 1) aNil)))) (sAug gICat 5 (xTup (aCons (xVar 7) aNil)))) (rng p (k + 1)) [.d (.tup (I row)), .d (.int (pre.length : Nat)), s2, s3, s4, .d (.tup acc), s6, s7] h
          = forL (gNm 6) (sSeq (sAsg (gTupD 2 (gConsD (gNm 7) (gConsD (gNm 1) gNilD))) (opC 2 F (aCons (xVar 0) (aCons (xVar 1) aNil)))) (sAug gICat 5 (xTup (aCons (xVar 7) aNil)))) (rng (p + 1) k) [.d (.tup (I row)), .d (.int ((pre ++ u).length : Nat)), s2, s3, s4, .d (.tup (acc ++ [d])), .d (.int p), .d d] h := by
        rw [rng_succ, forL, ← hp]
        simp only [eF, res, hs, szl, Nat.reduceLeDiff, Int.reduceLT, Int.reduceLE, Int.reduceNeg, List.length_map, List.length_append, List.nil_append, List.cons_append, at_ok, at_exc, ts_ok, ts_exc, sSeq, sSet, sRet, sRetV, sIf, sNil, sRaise, sAug, sAppOwn, sExt, sAsg, sAsg2, sPar2, sPar3, sBrk, sFor, sSetIx, sTry, calmS, slOf, slA, retOk, fnRes, gIAdd, gICat, xVar, xC, xIf, xTest, xTru, xAnd, xOr, xNot, xAndV, xOrV, xChain, xTup, xLst, xSl, oSome, oNone, op1, op2, opN, opM1, opC, aCons, aNil, lift, g1, g2, dAll, gAdd, gLen_tup, gLen_bor, gLen_new, gLen_bz, wipeS, gIx_tup, gIx_bor, gIx_bz, kS, gEq_int, gNe_int, isi_tt, isi_ts, isi_ti, isi_st, isi_ss, isi_si, isi_it, isi_is, isi_ii, gSub_e, gDiv_e, gMod_e, gLt_e, gLe_e, gGt_e, gGe_e, gNeg, gIs, gIsNot, idR, gInt, gAbs, gTy, ty_int, ty_str, ty_tup, ty_bl, ty_non, intOf, strOf, tupOf, lstOf, seqOf, dctOf, truR, truD, truC, gNm, gNilD, gConsD, gTupD, itemsE, itemsS, itemsV, iE, iV, iRg1, iRevEn, iVs, seqV, seqE, List.getElem?_cons_zero, List.getElem?_cons_succ, List.set_cons_zero, List.set_cons_succ, List.length_cons, List.length_nil, Option.map_some, Option.map_none, if_true, decide_true, decide_false, Bool.false_eq_true, if_false, ite_true, ite_false, reduceIte, Nat.reduceAdd, reduceCtorEq, Bool.not_true, Bool.not_false]
      rw [key]
      exact IH
theorem ev_thing_at : ∀ (m n : Nat) (pre sfx : List Int) (h : Hs) (r : Option (D × List Int)), m ≤ n → pre.length + sfx.length < 1000000 → Byte (pre ++ sfx) → rd m sfx = some r → run (n + 2) .f_thing_at [.d (.tup (I (pre ++ sfx))), .d (.int (pre.length : Nat))] h = res (pre ++ sfx) r h
  | 0, _, _, _, _, _, _, _, _, hr => by cases hr
  | m + 1, n, pre, [], h, r, hn, hl, hb, hr => by
    cases hr
    rw [r_f_thing_at]
    unfold b_f_thing_at
    simp only [I, List.append_nil, show ((pre.length : Int) ≤ (pre.length : Int)) from Int.le_refl _, Nat.zero_le, szl, Nat.reduceLeDiff, Int.reduceLT, Int.reduceLE, Int.reduceNeg, List.length_map, List.length_append, List.nil_append, List.cons_append, at_ok, at_exc, ts_ok, ts_exc, sSeq, sSet, sRet, sRetV, sIf, sNil, sRaise, sAug, sAppOwn, sExt, sAsg, sAsg2, sPar2, sPar3, sBrk, sFor, sSetIx, sTry, calmS, slOf, slA, retOk, fnRes, gIAdd, gICat, xVar, xC, xIf, xTest, xTru, xAnd, xOr, xNot, xAndV, xOrV, xChain, xTup, xLst, xSl, oSome, oNone, op1, op2, opN, opM1, opC, aCons, aNil, lift, g1, g2, dAll, gAdd, gLen_tup, gLen_bor, gLen_new, gLen_bz, wipeS, gIx_tup, gIx_bor, gIx_bz, kS, gEq_int, gNe_int, isi_tt, isi_ts, isi_ti, isi_st, isi_ss, isi_si, isi_it, isi_is, isi_ii, gSub_e, gDiv_e, gMod_e, gLt_e, gLe_e, gGt_e, gGe_e, gNeg, gIs, gIsNot, idR, gInt, gAbs, gTy, ty_int, ty_str, ty_tup, ty_bl, ty_non, intOf, strOf, tupOf, lstOf, seqOf, dctOf, truR, truD, truC, gNm, gNilD, gConsD, gTupD, itemsE, itemsS, itemsV, iE, iV, iRg1, iRevEn, iVs, seqV, seqE, List.getElem?_cons_zero, List.getElem?_cons_succ, List.set_cons_zero, List.set_cons_succ, List.length_cons, List.length_nil, Option.map_some, Option.map_none, if_true, decide_true, decide_false, Bool.false_eq_true, if_false, ite_true, ite_false, reduceIte, Nat.reduceAdd, reduceCtorEq, Bool.not_true, Bool.not_false]
    rfl
  | m + 1, n, pre, x :: sfx, h, r, hn, hl, hB, hr => by
    have hb : Byte (x :: sfx) := Byte.app hB
    obtain ⟨n, rfl⟩ : ∃ k, n = k + 1 := ⟨n - 1, by omega⟩
    rw [r_f_thing_at]
    unfold b_f_thing_at
    rw [List.length_cons] at hl
    have hg := get_mid pre sfx x
    have hlen : ¬ (((pre.length + (sfx.length + 1) : Nat) : Int) ≤ (pre.length : Int)) := by omega
    rw [rd] at hr
    by_cases hk : x = 1 ∨ x = 2 ∨ x = 3
    · rw [if_pos hk] at hr
      have eN := ev_number_at (n + 1) (pre ++ [x]) sfx h (by rw [List.length_append]; show pre.length + 1 + sfx.length < _; omega) (fun y hy => hb y (List.mem_cons_of_mem _ hy))
      have ea : pre ++ [x] ++ sfx = pre ++ x :: sfx := by simp
      have el : (((pre ++ [x]).length : Nat) : Int) = (pre.length : Int) + 1 := by rw [List.length_append]; rfl
      rw [ea, el] at eN
      have st1 : ∀ f g : SX, sSeq (sIf (xOr (xTest (op2 gGe (xVar 1) (opN (g1 gLen) (aCons (xVar 0) aNil)))) (xTest (op2 gNotIn (op2 gIx (xVar 0) (xVar 1)) (xTup (aCons (xC (.int 1)) (aCons (xC (.int 2)) (aCons (xC (.int 3)) aNil))))))) f sNil) (sSeq (sSet 2 (op2 gIx (xVar 0) (xVar 1))) g) [slA (.d (.tup (I (pre ++ x :: sfx)))), slA (.d (.int (pre.length : Nat))), .none, .none, .none, .none, .none, .none] h
          = g [.d (.tup (I (pre ++ x :: sfx))), .d (.int (pre.length : Nat)), .d (.int x), .none, .none, .none, .none, .none] h := fun f g => by
        simp only [hlen, hg, notIn3, hk, szl, Nat.reduceLeDiff, Int.reduceLT, Int.reduceLE, Int.reduceNeg, List.length_map, List.length_append, List.nil_append, List.cons_append, at_ok, at_exc, ts_ok, ts_exc, sSeq, sSet, sRet, sRetV, sIf, sNil, sRaise, sAug, sAppOwn, sExt, sAsg, sAsg2, sPar2, sPar3, sBrk, sFor, sSetIx, sTry, calmS, slOf, slA, retOk, fnRes, gIAdd, gICat, xVar, xC, xIf, xTest, xTru, xAnd, xOr, xNot, xAndV, xOrV, xChain, xTup, xLst, xSl, oSome, oNone, op1, op2, opN, opM1, opC, aCons, aNil, lift, g1, g2, dAll, gAdd, gLen_tup, gLen_bor, gLen_new, gLen_bz, wipeS, gIx_tup, gIx_bor, gIx_bz, kS, gEq_int, gNe_int, isi_tt, isi_ts, isi_ti, isi_st, isi_ss, isi_si, isi_it, isi_is, isi_ii, gSub_e, gDiv_e, gMod_e, gLt_e, gLe_e, gGt_e, gGe_e, gNeg, gIs, gIsNot, idR, gInt, gAbs, gTy, ty_int, ty_str, ty_tup, ty_bl, ty_non, intOf, strOf, tupOf, lstOf, seqOf, dctOf, truR, truD, truC, gNm, gNilD, gConsD, gTupD, itemsE, itemsS, itemsV, iE, iV, iRg1, iRevEn, iVs, seqV, seqE, List.getElem?_cons_zero, List.getElem?_cons_succ, List.set_cons_zero, List.set_cons_succ, List.length_cons, List.length_nil, Option.map_some, Option.map_none, if_true, decide_true, decide_false, Bool.false_eq_true, if_false, ite_true, ite_false, reduceIte, Nat.reduceAdd, reduceCtorEq, Bool.not_true, Bool.not_false]
      rw [st1]
      cases hn : num sfx with
      | none =>
        rw [hn] at eN hr
        cases hr
        simp only [eN, szl, Nat.reduceLeDiff, Int.reduceLT, Int.reduceLE, Int.reduceNeg, List.length_map, List.length_append, List.nil_append, List.cons_append, at_ok, at_exc, ts_ok, ts_exc, sSeq, sSet, sRet, sRetV, sIf, sNil, sRaise, sAug, sAppOwn, sExt, sAsg, sAsg2, sPar2, sPar3, sBrk, sFor, sSetIx, sTry, calmS, slOf, slA, retOk, fnRes, gIAdd, gICat, xVar, xC, xIf, xTest, xTru, xAnd, xOr, xNot, xAndV, xOrV, xChain, xTup, xLst, xSl, oSome, oNone, op1, op2, opN, opM1, opC, aCons, aNil, lift, g1, g2, dAll, gAdd, gLen_tup, gLen_bor, gLen_new, gLen_bz, wipeS, gIx_tup, gIx_bor, gIx_bz, kS, gEq_int, gNe_int, isi_tt, isi_ts, isi_ti, isi_st, isi_ss, isi_si, isi_it, isi_is, isi_ii, gSub_e, gDiv_e, gMod_e, gLt_e, gLe_e, gGt_e, gGe_e, gNeg, gIs, gIsNot, idR, gInt, gAbs, gTy, ty_int, ty_str, ty_tup, ty_bl, ty_non, intOf, strOf, tupOf, lstOf, seqOf, dctOf, truR, truD, truC, gNm, gNilD, gConsD, gTupD, itemsE, itemsS, itemsV, iE, iV, iRg1, iRevEn, iVs, seqV, seqE, List.getElem?_cons_zero, List.getElem?_cons_succ, List.set_cons_zero, List.set_cons_succ, List.length_cons, List.length_nil, Option.map_some, Option.map_none, if_true, decide_true, decide_false, Bool.false_eq_true, if_false, ite_true, ite_false, reduceIte, Nat.reduceAdd, reduceCtorEq, Bool.not_true, Bool.not_false]
        rfl
      | some p =>
        obtain ⟨k, ys⟩ := p
        rw [hn] at eN hr
        simp only at eN hr
        obtain ⟨l1, used, e1⟩ := numA_len sfx 1 0 true hn
        have hk0 := numA_nn sfx 1 0 true (fun y hy => hb y (List.mem_cons_of_mem _ hy)) (by decide) (by decide) hn
        obtain ⟨kn, rfl⟩ : ∃ j : Nat, k = (j : Int) := ⟨k.toNat, by omega⟩
        obtain ⟨P, hP⟩ : ∃ P, P = pre ++ x :: used := ⟨_, rfl⟩
        have hrow : pre ++ x :: sfx = P ++ ys := by rw [hP, e1, List.append_assoc]; rfl
        have hby : Byte ys := fun y hy => hb y (List.mem_cons_of_mem _ (by rw [e1]; exact List.mem_append_right _ hy))
        have hPl : P.length + ys.length < 1000000 := by
          have := congrArg List.length hrow
          rw [List.length_append, List.length_append, List.length_cons] at this
          omega
        have hat : (P ++ ys).length - ys.length = P.length := by rw [List.length_append]; omega
        rw [hrow, hat] at eN
        rw [hrow]
        have st2 : ∀ g : SX, sSeq (sAsg (gTupD 2 (gConsD (gNm 3) (gConsD (gNm 1) gNilD))) (opC 2 (run (n + 1 + 1) .f_number_at) (aCons (xVar 0) (aCons (op2 gAdd (xVar 1) (xC (.int 1))) aNil)))) g [.d (.tup (I (P ++ ys))), .d (.int (pre.length : Nat)), .d (.int x), .none, .none, .none, .none, .none] h
            = g [.d (.tup (I (P ++ ys))), .d (.int (P.length : Nat)), .d (.int x), .d (.int (kn : Nat)), .none, .none, .none, .none] h := fun g => sSeq_nx (by simp only [eN, szl, Nat.reduceLeDiff, Int.reduceLT, Int.reduceLE, Int.reduceNeg, List.length_map, List.length_append, List.nil_append, List.cons_append, at_ok, at_exc, ts_ok, ts_exc, sSeq, sSet, sRet, sRetV, sIf, sNil, sRaise, sAug, sAppOwn, sExt, sAsg, sAsg2, sPar2, sPar3, sBrk, sFor, sSetIx, sTry, calmS, slOf, slA, retOk, fnRes, gIAdd, gICat, xVar, xC, xIf, xTest, xTru, xAnd, xOr, xNot, xAndV, xOrV, xChain, xTup, xLst, xSl, oSome, oNone, op1, op2, opN, opM1, opC, aCons, aNil, lift, g1, g2, dAll, gAdd, gLen_tup, gLen_bor, gLen_new, gLen_bz, wipeS, gIx_tup, gIx_bor, gIx_bz, kS, gEq_int, gNe_int, isi_tt, isi_ts, isi_ti, isi_st, isi_ss, isi_si, isi_it, isi_is, isi_ii, gSub_e, gDiv_e, gMod_e, gLt_e, gLe_e, gGt_e, gGe_e, gNeg, gIs, gIsNot, idR, gInt, gAbs, gTy, ty_int, ty_str, ty_tup, ty_bl, ty_non, intOf, strOf, tupOf, lstOf, seqOf, dctOf, truR, truD, truC, gNm, gNilD, gConsD, gTupD, itemsE, itemsS, itemsV, iE, iV, iRg1, iRevEn, iVs, seqV, seqE, List.getElem?_cons_zero, List.getElem?_cons_succ, List.set_cons_zero, List.set_cons_succ, List.length_cons, List.length_nil, Option.map_some, Option.map_none, if_true, decide_true, decide_false, Bool.false_eq_true, if_false, ite_true, ite_false, reduceIte, Nat.reduceAdd, reduceCtorEq, Bool.not_true, Bool.not_false])
        rw [st2]
        have hsub : ((P.length + ys.length : Nat) : Int) - (P.length : Nat) = (ys.length : Nat) := by omega
        by_cases hx1 : x = 1
        · rw [if_pos hx1] at hr
          cases hr
          subst hx1
          have : (P ++ ys).length - ys.length = P.length := hat
          by_cases hev : (kn : Int) % 2 = 0
          · simp only [hev, res, unzz, szl, Nat.reduceLeDiff, Int.reduceLT, Int.reduceLE, Int.reduceNeg, List.length_map, List.length_append, List.nil_append, List.cons_append, at_ok, at_exc, ts_ok, ts_exc, sSeq, sSet, sRet, sRetV, sIf, sNil, sRaise, sAug, sAppOwn, sExt, sAsg, sAsg2, sPar2, sPar3, sBrk, sFor, sSetIx, sTry, calmS, slOf, slA, retOk, fnRes, gIAdd, gICat, xVar, xC, xIf, xTest, xTru, xAnd, xOr, xNot, xAndV, xOrV, xChain, xTup, xLst, xSl, oSome, oNone, op1, op2, opN, opM1, opC, aCons, aNil, lift, g1, g2, dAll, gAdd, gLen_tup, gLen_bor, gLen_new, gLen_bz, wipeS, gIx_tup, gIx_bor, gIx_bz, kS, gEq_int, gNe_int, isi_tt, isi_ts, isi_ti, isi_st, isi_ss, isi_si, isi_it, isi_is, isi_ii, gSub_e, gDiv_e, gMod_e, gLt_e, gLe_e, gGt_e, gGe_e, gNeg, gIs, gIsNot, idR, gInt, gAbs, gTy, ty_int, ty_str, ty_tup, ty_bl, ty_non, intOf, strOf, tupOf, lstOf, seqOf, dctOf, truR, truD, truC, gNm, gNilD, gConsD, gTupD, itemsE, itemsS, itemsV, iE, iV, iRg1, iRevEn, iVs, seqV, seqE, List.getElem?_cons_zero, List.getElem?_cons_succ, List.set_cons_zero, List.set_cons_succ, List.length_cons, List.length_nil, Option.map_some, Option.map_none, if_true, decide_true, decide_false, Bool.false_eq_true, if_false, ite_true, ite_false, reduceIte, Nat.reduceAdd, reduceCtorEq, Bool.not_true, Bool.not_false]
            rw [show P.length + ys.length - ys.length = P.length from by omega]
          · simp only [hev, res, unzz, szl, Nat.reduceLeDiff, Int.reduceLT, Int.reduceLE, Int.reduceNeg, List.length_map, List.length_append, List.nil_append, List.cons_append, at_ok, at_exc, ts_ok, ts_exc, sSeq, sSet, sRet, sRetV, sIf, sNil, sRaise, sAug, sAppOwn, sExt, sAsg, sAsg2, sPar2, sPar3, sBrk, sFor, sSetIx, sTry, calmS, slOf, slA, retOk, fnRes, gIAdd, gICat, xVar, xC, xIf, xTest, xTru, xAnd, xOr, xNot, xAndV, xOrV, xChain, xTup, xLst, xSl, oSome, oNone, op1, op2, opN, opM1, opC, aCons, aNil, lift, g1, g2, dAll, gAdd, gLen_tup, gLen_bor, gLen_new, gLen_bz, wipeS, gIx_tup, gIx_bor, gIx_bz, kS, gEq_int, gNe_int, isi_tt, isi_ts, isi_ti, isi_st, isi_ss, isi_si, isi_it, isi_is, isi_ii, gSub_e, gDiv_e, gMod_e, gLt_e, gLe_e, gGt_e, gGe_e, gNeg, gIs, gIsNot, idR, gInt, gAbs, gTy, ty_int, ty_str, ty_tup, ty_bl, ty_non, intOf, strOf, tupOf, lstOf, seqOf, dctOf, truR, truD, truC, gNm, gNilD, gConsD, gTupD, itemsE, itemsS, itemsV, iE, iV, iRg1, iRevEn, iVs, seqV, seqE, List.getElem?_cons_zero, List.getElem?_cons_succ, List.set_cons_zero, List.set_cons_succ, List.length_cons, List.length_nil, Option.map_some, Option.map_none, if_true, decide_true, decide_false, Bool.false_eq_true, if_false, ite_true, ite_false, reduceIte, Nat.reduceAdd, reduceCtorEq, Bool.not_true, Bool.not_false]
            rw [show P.length + ys.length - ys.length = P.length from by omega]
        · rw [if_neg hx1] at hr
          by_cases hgt : (ys.length : Int) < (kn : Int)
          · rw [if_pos hgt] at hr
            cases hr
            simp only [hx1, hsub, hgt, Nat.zero_le, szl, Nat.reduceLeDiff, Int.reduceLT, Int.reduceLE, Int.reduceNeg, List.length_map, List.length_append, List.nil_append, List.cons_append, at_ok, at_exc, ts_ok, ts_exc, sSeq, sSet, sRet, sRetV, sIf, sNil, sRaise, sAug, sAppOwn, sExt, sAsg, sAsg2, sPar2, sPar3, sBrk, sFor, sSetIx, sTry, calmS, slOf, slA, retOk, fnRes, gIAdd, gICat, xVar, xC, xIf, xTest, xTru, xAnd, xOr, xNot, xAndV, xOrV, xChain, xTup, xLst, xSl, oSome, oNone, op1, op2, opN, opM1, opC, aCons, aNil, lift, g1, g2, dAll, gAdd, gLen_tup, gLen_bor, gLen_new, gLen_bz, wipeS, gIx_tup, gIx_bor, gIx_bz, kS, gEq_int, gNe_int, isi_tt, isi_ts, isi_ti, isi_st, isi_ss, isi_si, isi_it, isi_is, isi_ii, gSub_e, gDiv_e, gMod_e, gLt_e, gLe_e, gGt_e, gGe_e, gNeg, gIs, gIsNot, idR, gInt, gAbs, gTy, ty_int, ty_str, ty_tup, ty_bl, ty_non, intOf, strOf, tupOf, lstOf, seqOf, dctOf, truR, truD, truC, gNm, gNilD, gConsD, gTupD, itemsE, itemsS, itemsV, iE, iV, iRg1, iRevEn, iVs, seqV, seqE, List.getElem?_cons_zero, List.getElem?_cons_succ, List.set_cons_zero, List.set_cons_succ, List.length_cons, List.length_nil, Option.map_some, Option.map_none, if_true, decide_true, decide_false, Bool.false_eq_true, if_false, ite_true, ite_false, reduceIte, Nat.reduceAdd, reduceCtorEq, Bool.not_true, Bool.not_false]
            rfl
          · rw [if_neg hgt] at hr
            have hkl : kn ≤ ys.length := by omega
            by_cases hx2 : x = 2
            · rw [if_pos hx2, Int.toNat_natCast] at hr
              subst hx2
              have ea := any_ge (.d (.tup (I (P ++ ys)))) (.d (.int (P.length : Nat))) (.d (.int 2)) (.d (.int (kn : Nat))) .none .none .none h (ys.take kn)
              by_cases han : (ys.take kn).any (fun s => decide (44 ≤ s)) = true
              · rw [if_pos han] at hr
                cases hr
                rw [han] at ea
                simp only [hx1, hsub, hgt, gSl_tup, cut_mid, xAny, ea, Nat.zero_le, szl, Nat.reduceLeDiff, Int.reduceLT, Int.reduceLE, Int.reduceNeg, List.length_map, List.length_append, List.nil_append, List.cons_append, at_ok, at_exc, ts_ok, ts_exc, sSeq, sSet, sRet, sRetV, sIf, sNil, sRaise, sAug, sAppOwn, sExt, sAsg, sAsg2, sPar2, sPar3, sBrk, sFor, sSetIx, sTry, calmS, slOf, slA, retOk, fnRes, gIAdd, gICat, xVar, xC, xIf, xTest, xTru, xAnd, xOr, xNot, xAndV, xOrV, xChain, xTup, xLst, xSl, oSome, oNone, op1, op2, opN, opM1, opC, aCons, aNil, lift, g1, g2, dAll, gAdd, gLen_tup, gLen_bor, gLen_new, gLen_bz, wipeS, gIx_tup, gIx_bor, gIx_bz, kS, gEq_int, gNe_int, isi_tt, isi_ts, isi_ti, isi_st, isi_ss, isi_si, isi_it, isi_is, isi_ii, gSub_e, gDiv_e, gMod_e, gLt_e, gLe_e, gGt_e, gGe_e, gNeg, gIs, gIsNot, idR, gInt, gAbs, gTy, ty_int, ty_str, ty_tup, ty_bl, ty_non, intOf, strOf, tupOf, lstOf, seqOf, dctOf, truR, truD, truC, gNm, gNilD, gConsD, gTupD, itemsE, itemsS, itemsV, iE, iV, iRg1, iRevEn, iVs, seqV, seqE, List.getElem?_cons_zero, List.getElem?_cons_succ, List.set_cons_zero, List.set_cons_succ, List.length_cons, List.length_nil, Option.map_some, Option.map_none, if_true, decide_true, decide_false, Bool.false_eq_true, if_false, ite_true, ite_false, reduceIte, Nat.reduceAdd, reduceCtorEq, Bool.not_true, Bool.not_false]
                rfl
              · rw [if_neg han] at hr
                cases hr
                have hlt : ∀ b ∈ ys.take kn, b < 44 := fun b hb' => by
                  have hz : ¬ (44 ≤ b) := fun z => han (List.any_eq_true.mpr ⟨b, hb', decide_eq_true z⟩)
                  omega
                have hbt : Byte (ys.take kn) := fun b hb' => hby b (List.mem_of_mem_take hb')
                have hlt2 : (ys.take kn).length ≤ 16777216 := by rw [List.length_take]; omega
                have el2 := lc_sgn (.d (.tup (I (P ++ ys)))) (.d (.int (P.length : Nat))) (.d (.int 2)) (.d (.int (kn : Nat))) .none .none .none h (ys.take kn) 0 hbt hlt (by omega)
                have ej := join_txt ((ys.take kn).map Int.toNat) h (by rw [List.length_map]; exact hlt2)
                rw [Bool.eq_false_iff.mpr han] at ea
                simp only [hx1, hsub, hgt, gSl_tup, cut_mid, xAny, ea, xLc, el2, ej, res, List.length_drop, szl, Nat.reduceLeDiff, Int.reduceLT, Int.reduceLE, Int.reduceNeg, List.length_map, List.length_append, List.nil_append, List.cons_append, at_ok, at_exc, ts_ok, ts_exc, sSeq, sSet, sRet, sRetV, sIf, sNil, sRaise, sAug, sAppOwn, sExt, sAsg, sAsg2, sPar2, sPar3, sBrk, sFor, sSetIx, sTry, calmS, slOf, slA, retOk, fnRes, gIAdd, gICat, xVar, xC, xIf, xTest, xTru, xAnd, xOr, xNot, xAndV, xOrV, xChain, xTup, xLst, xSl, oSome, oNone, op1, op2, opN, opM1, opC, aCons, aNil, lift, g1, g2, dAll, gAdd, gLen_tup, gLen_bor, gLen_new, gLen_bz, wipeS, gIx_tup, gIx_bor, gIx_bz, kS, gEq_int, gNe_int, isi_tt, isi_ts, isi_ti, isi_st, isi_ss, isi_si, isi_it, isi_is, isi_ii, gSub_e, gDiv_e, gMod_e, gLt_e, gLe_e, gGt_e, gGe_e, gNeg, gIs, gIsNot, idR, gInt, gAbs, gTy, ty_int, ty_str, ty_tup, ty_bl, ty_non, intOf, strOf, tupOf, lstOf, seqOf, dctOf, truR, truD, truC, gNm, gNilD, gConsD, gTupD, itemsE, itemsS, itemsV, iE, iV, iRg1, iRevEn, iVs, seqV, seqE, List.getElem?_cons_zero, List.getElem?_cons_succ, List.set_cons_zero, List.set_cons_succ, List.length_cons, List.length_nil, Option.map_some, Option.map_none, if_true, decide_true, decide_false, Bool.false_eq_true, if_false, ite_true, ite_false, reduceIte, Nat.reduceAdd, reduceCtorEq, Bool.not_true, Bool.not_false]
                rw [show P.length + ys.length - (ys.length - kn) = P.length + kn from by omega]
                rfl
            · rw [if_neg hx2, Int.toNat_natCast] at hr
              have hF : ∀ (pre' ys' : List Int), P ++ ys = pre' ++ ys' → ∀ r, rd m ys' = some r → run (n + 1 + 1) .f_thing_at [.d (.tup (I (P ++ ys))), .d (.int (pre'.length : Nat))] h = res (P ++ ys) r h := fun pre' ys' e r hr' => by
                rw [e]
                refine ev_thing_at m n pre' ys' h r (by omega) ?_ ?_ hr'
                · have := congrArg List.length e
                  rw [List.length_append, List.length_append] at this
                  omega
                · rw [← e, ← hrow]
                  exact hB
              have L := parts_loop (run (n + 1 + 1) .f_thing_at) m (P ++ ys) h (.d (.int x)) (.d (.int (kn : Nat))) .none hF kn 0 [] P ys .none .none
              have hg2 := inRg_ok (n := (kn : Int)) (by omega) (by omega)
              cases er : rds (rd m) kn [] ys with
              | none => rw [er] at hr; cases hr
              | some rr =>
                rw [er] at hr
                have L2 := L rr rfl (by rw [List.length_nil]; omega) er
                cases rr with
                | none =>
                  cases hr
                  obtain ⟨S', e⟩ := L2
                  simp only [hx1, hx2, hsub, hgt, hg2, rangeD_rng, e, Nat.zero_le, szl, Nat.reduceLeDiff, Int.reduceLT, Int.reduceLE, Int.reduceNeg, List.length_map, List.length_append, List.nil_append, List.cons_append, at_ok, at_exc, ts_ok, ts_exc, sSeq, sSet, sRet, sRetV, sIf, sNil, sRaise, sAug, sAppOwn, sExt, sAsg, sAsg2, sPar2, sPar3, sBrk, sFor, sSetIx, sTry, calmS, slOf, slA, retOk, fnRes, gIAdd, gICat, xVar, xC, xIf, xTest, xTru, xAnd, xOr, xNot, xAndV, xOrV, xChain, xTup, xLst, xSl, oSome, oNone, op1, op2, opN, opM1, opC, aCons, aNil, lift, g1, g2, dAll, gAdd, gLen_tup, gLen_bor, gLen_new, gLen_bz, wipeS, gIx_tup, gIx_bor, gIx_bz, kS, gEq_int, gNe_int, isi_tt, isi_ts, isi_ti, isi_st, isi_ss, isi_si, isi_it, isi_is, isi_ii, gSub_e, gDiv_e, gMod_e, gLt_e, gLe_e, gGt_e, gGe_e, gNeg, gIs, gIsNot, idR, gInt, gAbs, gTy, ty_int, ty_str, ty_tup, ty_bl, ty_non, intOf, strOf, tupOf, lstOf, seqOf, dctOf, truR, truD, truC, gNm, gNilD, gConsD, gTupD, itemsE, itemsS, itemsV, iE, iV, iRg1, iRevEn, iVs, seqV, seqE, List.getElem?_cons_zero, List.getElem?_cons_succ, List.set_cons_zero, List.set_cons_succ, List.length_cons, List.length_nil, Option.map_some, Option.map_none, if_true, decide_true, decide_false, Bool.false_eq_true, if_false, ite_true, ite_false, reduceIte, Nat.reduceAdd, reduceCtorEq, Bool.not_true, Bool.not_false]
                  rfl
                | some q =>
                  obtain ⟨ds, zs⟩ := q
                  cases hr
                  obtain ⟨s6', s7', e⟩ := L2
                  simp only [hx1, hx2, hsub, hgt, hg2, rangeD_rng, e, Nat.zero_le, res, szl, Nat.reduceLeDiff, Int.reduceLT, Int.reduceLE, Int.reduceNeg, List.length_map, List.length_append, List.nil_append, List.cons_append, at_ok, at_exc, ts_ok, ts_exc, sSeq, sSet, sRet, sRetV, sIf, sNil, sRaise, sAug, sAppOwn, sExt, sAsg, sAsg2, sPar2, sPar3, sBrk, sFor, sSetIx, sTry, calmS, slOf, slA, retOk, fnRes, gIAdd, gICat, xVar, xC, xIf, xTest, xTru, xAnd, xOr, xNot, xAndV, xOrV, xChain, xTup, xLst, xSl, oSome, oNone, op1, op2, opN, opM1, opC, aCons, aNil, lift, g1, g2, dAll, gAdd, gLen_tup, gLen_bor, gLen_new, gLen_bz, wipeS, gIx_tup, gIx_bor, gIx_bz, kS, gEq_int, gNe_int, isi_tt, isi_ts, isi_ti, isi_st, isi_ss, isi_si, isi_it, isi_is, isi_ii, gSub_e, gDiv_e, gMod_e, gLt_e, gLe_e, gGt_e, gGe_e, gNeg, gIs, gIsNot, idR, gInt, gAbs, gTy, ty_int, ty_str, ty_tup, ty_bl, ty_non, intOf, strOf, tupOf, lstOf, seqOf, dctOf, truR, truD, truC, gNm, gNilD, gConsD, gTupD, itemsE, itemsS, itemsV, iE, iV, iRg1, iRevEn, iVs, seqV, seqE, List.getElem?_cons_zero, List.getElem?_cons_succ, List.set_cons_zero, List.set_cons_succ, List.length_cons, List.length_nil, Option.map_some, Option.map_none, if_true, decide_true, decide_false, Bool.false_eq_true, if_false, ite_true, ite_false, reduceIte, Nat.reduceAdd, reduceCtorEq, Bool.not_true, Bool.not_false]
    · rw [if_neg hk] at hr
      cases hr
      simp only [hlen, hg, notIn3, hk, Nat.zero_le, szl, Nat.reduceLeDiff, Int.reduceLT, Int.reduceLE, Int.reduceNeg, List.length_map, List.length_append, List.nil_append, List.cons_append, at_ok, at_exc, ts_ok, ts_exc, sSeq, sSet, sRet, sRetV, sIf, sNil, sRaise, sAug, sAppOwn, sExt, sAsg, sAsg2, sPar2, sPar3, sBrk, sFor, sSetIx, sTry, calmS, slOf, slA, retOk, fnRes, gIAdd, gICat, xVar, xC, xIf, xTest, xTru, xAnd, xOr, xNot, xAndV, xOrV, xChain, xTup, xLst, xSl, oSome, oNone, op1, op2, opN, opM1, opC, aCons, aNil, lift, g1, g2, dAll, gAdd, gLen_tup, gLen_bor, gLen_new, gLen_bz, wipeS, gIx_tup, gIx_bor, gIx_bz, kS, gEq_int, gNe_int, isi_tt, isi_ts, isi_ti, isi_st, isi_ss, isi_si, isi_it, isi_is, isi_ii, gSub_e, gDiv_e, gMod_e, gLt_e, gLe_e, gGt_e, gGe_e, gNeg, gIs, gIsNot, idR, gInt, gAbs, gTy, ty_int, ty_str, ty_tup, ty_bl, ty_non, intOf, strOf, tupOf, lstOf, seqOf, dctOf, truR, truD, truC, gNm, gNilD, gConsD, gTupD, itemsE, itemsS, itemsV, iE, iV, iRg1, iRevEn, iVs, seqV, seqE, List.getElem?_cons_zero, List.getElem?_cons_succ, List.set_cons_zero, List.set_cons_succ, List.length_cons, List.length_nil, Option.map_some, Option.map_none, if_true, decide_true, decide_false, Bool.false_eq_true, if_false, ite_true, ite_false, reduceIte, Nat.reduceAdd, reduceCtorEq, Bool.not_true, Bool.not_false]
      rfl
end Sh65
set_option Elab.async false
set_option linter.all false
set_option maxRecDepth 100000
set_option maxHeartbeats 4000000
namespace Sh65
open PySem Sh
/-! ### data that may be compared -/
def Plain (n : Nat) (d : D) : Prop := ∃ p, pyD d = some p ∧ p.canLay0 = true ∧ p.depth ≤ n
theorem Plain.mono {n m : Nat} {d : D} (h : Plain n d) (hm : n ≤ m) : Plain m d := by
  obtain ⟨p, h1, h2, h3⟩ := h
  exact ⟨p, h1, h2, Nat.le_trans h3 hm⟩
theorem plain_int (i : Int) : Plain 0 (.int i) := ⟨.int i, by simp only [pyD], by simp only [PyData.canLay0], by simp only [PyData.depth]; exact Nat.le_refl _⟩
theorem plain_str {z : Str} (h : PyData.strOk z = true) : Plain 0 (.str z) := ⟨.str z, by simp only [pyD], by simp only [PyData.canLay0]; exact h, by simp only [PyData.depth]; exact Nat.le_refl _⟩
theorem plain_all {n : Nat} : ∀ xs : List D, (∀ x ∈ xs, Plain n x) → ∃ ps, pyDs xs = some ps ∧ PyData.canLayAll0 ps = true ∧ PyData.depthAll ps ≤ n
  | [], _ => ⟨[], by simp only [pyDs], by simp only [PyData.canLayAll0], by simp only [PyData.depthAll]; exact Nat.zero_le _⟩
  | x :: xs, h => by
    obtain ⟨p, a1, a2, a3⟩ := h x List.mem_cons_self
    obtain ⟨ps, b1, b2, b3⟩ := plain_all xs fun y hy => h y (List.mem_cons_of_mem _ hy)
    refine ⟨p :: ps, by simp only [pyDs, a1, b1], by simp only [PyData.canLayAll0, a2, b2, Bool.and_self], ?_⟩
    simp only [PyData.depthAll]
    exact Nat.max_le.mpr ⟨a3, b3⟩
theorem plain_tup {n : Nat} {xs : List D} (h : ∀ x ∈ xs, Plain n x) : Plain (n + 1) (.tup xs) := by
  obtain ⟨ps, b1, b2, b3⟩ := plain_all xs h
  refine ⟨.tuple ps, by simp only [pyD, b1], by simp only [PyData.canLay0]; exact b2, ?_⟩
  simp only [PyData.depth]
  exact Nat.succ_le_succ b3
theorem pyR_d {d : D} {p : PyData} (h : Hs) (e : pyD d = some p) : pyR (.d d) h = some p := by
  cases d with
  | ref j => simp only [pyD] at e; cases e
  | _ => exact e
theorem same_eq {n : Nat} {d : D} (hp : Plain n d) (hn : n ≤ 64) (h : Hs) : gEq (.d d) (.d d) h = some (.d (.bl true)) ∧ gNe (.d d) (.d d) h = some (.d (.bl false)) := by
  obtain ⟨p, e, c, dp⟩ := hp
  have sh : SeqAt.shaped p = true := by
    unfold SeqAt.shaped
    rw [c, decide_eq_true (Nat.le_trans dp hn)] <;> rfl
  have r := SeqAt.eqv_refl p c
  refine ⟨?_, ?_⟩
  · rw [gEq_of (pyR_d h e) (pyR_d h e) sh sh, r]
  · rw [gNe_of (pyR_d h e) (pyR_d h e) sh sh, r] <;> rfl
theorem pyDs_I : ∀ l : List Int, pyDs (I l) = some (l.map PyData.int)
  | [] => by simp only [I, List.map_nil, pyDs]
  | x :: l => by
    have e := pyDs_I l
    rw [I] at e
    simp only [I, List.map_cons, pyDs, pyD, e]
theorem shaped_I (l : List Int) : SeqAt.shaped (.list (l.map PyData.int)) = true := by
  have a : ∀ l : List Int, PyData.canLayAll0 (l.map PyData.int) = true := fun l => by
    induction l with
    | nil => simp only [List.map_nil, PyData.canLayAll0]
    | cons x l ih => simp only [List.map_cons, PyData.canLayAll0, PyData.canLay0, ih, Bool.and_self]
  have b : ∀ l : List Int, PyData.depthAll (l.map PyData.int) = 0 := fun l => by
    induction l with
    | nil => simp only [List.map_nil, PyData.depthAll]
    | cons x l ih => simp only [List.map_cons, PyData.depthAll, PyData.depth, ih]; rfl
  unfold SeqAt.shaped
  simp only [PyData.canLay0, PyData.depth, a, b, Bool.true_and]
  decide
theorem eqvAll_I : ∀ a b : List Int, PyData.eqvAll (a.map PyData.int) (b.map PyData.int) = decide (a = b)
  | [], [] => by simp only [List.map_nil, PyData.eqvAll, decide_true]
  | [], y :: b => by simp only [List.map_nil, List.map_cons, PyData.eqvAll]; rfl
  | x :: a, [] => by simp only [List.map_nil, List.map_cons, PyData.eqvAll]; rfl
  | x :: a, y :: b => by
    simp only [List.map_cons, PyData.eqvAll, PyData.eqv, eqvAll_I a b]
    rw [Bool.eq_iff_iff]
    simp only [Bool.and_eq_true, beq_iff_eq, decide_eq_true_eq, List.cons.injEq]
theorem gNe_I (a b : List Int) (h : Hs) : gNe (.new (.lst (I a))) (.new (.lst (I b))) h = some (.d (.bl (!decide (a = b)))) := by
  have p : ∀ l : List Int, pyR (.new (.lst (I l))) h = some (.list (l.map PyData.int)) := fun l => by
    show (pyDs (I l)).map PyData.list = _
    rw [pyDs_I] <;> rfl
  rw [gNe_of (p a) (p b) (shaped_I a) (shaped_I b), PyData.eqv, eqvAll_I]
end Sh65
set_option Elab.async false
set_option linter.all false
set_option maxRecDepth 100000
set_option maxHeartbeats 4000000
namespace Sh65
open PySem Sh
/-! ### the law's reader -/
def resL (row : List Int) (r : Option (D × List Int)) (h : Hs) : Option (Rs R) := match r with
  | none => some (.ok (.d .non) h)
  | some (d, zs) => some (.ok (.d (.tup [d, .int ((row.length - zs.length : Nat) : Int)])) h)
theorem gNe_nil (a : List Int) (h : Hs) : gNe (.new (.lst (I a))) (.new (.lst [])) h = some (.d (.bl (!decide (a = [])))) := gNe_I a [] h
theorem ix_pair0 (a b : D) (h : Hs) : gIx (.d (.tup [a, b])) (.d (.int 0)) h = some (.d a) := gIx_tup [a, b] 0 h
theorem ix_pair1 (a b : D) (h : Hs) : gIx (.d (.tup [a, b])) (.d (.int 1)) h = some (.d b) := gIx_tup [a, b] 1 h
theorem rds_def {m : Nat} (hf : ∀ ys : List Int, ys.length < m → ∃ r, rd m ys = some r) : ∀ (k : Nat) (acc : List D) (ys : List Int), ys.length < m → ∃ r, rds (rd m) k acc ys = some r
  | 0, acc, ys, _ => ⟨_, rfl⟩
  | k + 1, acc, ys, h => by
    obtain ⟨r, e⟩ := hf ys h
    rw [rds, e]
    cases r with
    | none => exact ⟨none, rfl⟩
    | some q =>
      obtain ⟨d, zs⟩ := q
      exact rds_def hf k _ zs (Nat.lt_trans (rd_sfx m _ _ _ e).1 h)
theorem rd_def : ∀ (m : Nat) (ys : List Int), ys.length < m → ∃ r, rd m ys = some r
  | 0, ys, h => absurd h (Nat.not_lt_zero _)
  | m + 1, [], _ => ⟨none, rfl⟩
  | m + 1, x :: xs, h => by
    rw [List.length_cons] at h
    rw [rd]
    by_cases hk : x = 1 ∨ x = 2 ∨ x = 3
    · rw [if_pos hk]
      cases hn : num xs with
      | none => exact ⟨none, rfl⟩
      | some p =>
        obtain ⟨k, ys⟩ := p
        have l1 := (numA_len xs 1 0 true hn).1
        simp only
        split
        · exact ⟨_, rfl⟩
        · split
          · exact ⟨_, rfl⟩
          · split
            · split
              · exact ⟨_, rfl⟩
              · exact ⟨_, rfl⟩
            · obtain ⟨r, e⟩ := rds_def (rd_def m) k.toNat [] ys (by omega)
              rw [e]
              cases r with
              | none => exact ⟨none, rfl⟩
              | some q => exact ⟨_, rfl⟩
    · rw [if_neg hk]
      exact ⟨none, rfl⟩
theorem lc_big (s0 s1 s2 s3 s4 s5 s7 s8 s9 : Sl) (h : Hs) : ∀ (bs : List Int) (q : Nat), q + bs.length ≤ 16777216 → lcL (gNm 6) (xTest (op2 gGt (xVar 6) (xC (.int 43)))) (xVar 6) [s0, s1, s2, s3, s4, s5, .none, s7, s8, s9] (I bs) q h = some (I (bs.filter fun s => decide (43 < s)), h)
  | [], _, _ => rfl
  | b :: bs, q, hq => by
    rw [List.length_cons] at hq
    have e1 := lc_big s0 s1 s2 s3 s4 s5 s7 s8 s9 h bs (q + 1) (by omega)
    have e0 := lc_big s0 s1 s2 s3 s4 s5 s7 s8 s9 h bs q (by omega)
    rw [I, List.map_cons, lcL]
    by_cases hb : 43 < b
    · simp only [hb, e1, show q < 16777216 from by omega, List.filter_cons, List.map_cons, szl, Nat.reduceLeDiff, Int.reduceLT, Int.reduceLE, Int.reduceNeg, List.length_map, List.length_append, List.nil_append, List.cons_append, at_ok, at_exc, ts_ok, ts_exc, sSeq, sSet, sRet, sRetV, sIf, sNil, sRaise, sAug, sAppOwn, sExt, sAsg, sAsg2, sPar2, sPar3, sBrk, sFor, sSetIx, sTry, calmS, slOf, slA, retOk, fnRes, gIAdd, gICat, xVar, xC, xIf, xTest, xTru, xAnd, xOr, xNot, xAndV, xOrV, xChain, xTup, xLst, xSl, oSome, oNone, op1, op2, opN, opM1, opC, aCons, aNil, lift, g1, g2, dAll, gAdd, gLen_tup, gLen_bor, gLen_new, gLen_bz, wipeS, gIx_tup, gIx_bor, gIx_bz, kS, gEq_int, gNe_int, isi_tt, isi_ts, isi_ti, isi_st, isi_ss, isi_si, isi_it, isi_is, isi_ii, gSub_e, gDiv_e, gMod_e, gLt_e, gLe_e, gGt_e, gGe_e, gNeg, gIs, gIsNot, idR, gInt, gAbs, gTy, ty_int, ty_str, ty_tup, ty_bl, ty_non, intOf, strOf, tupOf, lstOf, seqOf, dctOf, truR, truD, truC, gNm, gNilD, gConsD, gTupD, itemsE, itemsS, itemsV, iE, iV, iRg1, iRevEn, iVs, seqV, seqE, List.getElem?_cons_zero, List.getElem?_cons_succ, List.set_cons_zero, List.set_cons_succ, List.length_cons, List.length_nil, Option.map_some, Option.map_none, if_true, decide_true, decide_false, Bool.false_eq_true, if_false, ite_true, ite_false, reduceIte, Nat.reduceAdd, reduceCtorEq, Bool.not_true, Bool.not_false]
    · simp only [hb, e0, List.filter_cons, szl, Nat.reduceLeDiff, Int.reduceLT, Int.reduceLE, Int.reduceNeg, List.length_map, List.length_append, List.nil_append, List.cons_append, at_ok, at_exc, ts_ok, ts_exc, sSeq, sSet, sRet, sRetV, sIf, sNil, sRaise, sAug, sAppOwn, sExt, sAsg, sAsg2, sPar2, sPar3, sBrk, sFor, sSetIx, sTry, calmS, slOf, slA, retOk, fnRes, gIAdd, gICat, xVar, xC, xIf, xTest, xTru, xAnd, xOr, xNot, xAndV, xOrV, xChain, xTup, xLst, xSl, oSome, oNone, op1, op2, opN, opM1, opC, aCons, aNil, lift, g1, g2, dAll, gAdd, gLen_tup, gLen_bor, gLen_new, gLen_bz, wipeS, gIx_tup, gIx_bor, gIx_bz, kS, gEq_int, gNe_int, isi_tt, isi_ts, isi_ti, isi_st, isi_ss, isi_si, isi_it, isi_is, isi_ii, gSub_e, gDiv_e, gMod_e, gLt_e, gLe_e, gGt_e, gGe_e, gNeg, gIs, gIsNot, idR, gInt, gAbs, gTy, ty_int, ty_str, ty_tup, ty_bl, ty_non, intOf, strOf, tupOf, lstOf, seqOf, dctOf, truR, truD, truC, gNm, gNilD, gConsD, gTupD, itemsE, itemsS, itemsV, iE, iV, iRg1, iRevEn, iVs, seqV, seqE, List.getElem?_cons_zero, List.getElem?_cons_succ, List.set_cons_zero, List.set_cons_succ, List.length_cons, List.length_nil, Option.map_some, Option.map_none, if_true, decide_true, decide_false, Bool.false_eq_true, if_false, ite_true, ite_false, reduceIte, Nat.reduceAdd, reduceCtorEq, Bool.not_true, Bool.not_false]
theorem lc_sgn6 (s0 s1 s2 s3 s4 s5 s7 s8 s9 : Sl) (h : Hs) : ∀ (bs : List Int) (q : Nat), Byte bs → (∀ b ∈ bs, b < 44) → q + bs.length ≤ 16777216 → lcL (gNm 6) xYes (op2 gIx (xC (.str k_SIGNS)) (xVar 6)) [s0, s1, s2, s3, s4, s5, .none, s7, s8, s9] (I bs) q h = some ((bs.map Int.toNat).map fun j => D.str (txt [j]), h)
  | [], _, _, _, _ => rfl
  | b :: bs, q, hb, h4, hq => by
    rw [List.length_cons] at hq
    have e := lc_sgn6 s0 s1 s2 s3 s4 s5 s7 s8 s9 h bs (q + 1) (fun x hx => hb x (List.mem_cons_of_mem _ hx)) (fun x hx => h4 x (List.mem_cons_of_mem _ hx)) (by omega)
    have b0 := (hb b List.mem_cons_self).1
    have b1 := h4 b List.mem_cons_self
    obtain ⟨j, rfl⟩ : ∃ j : Nat, b = (j : Int) := ⟨b.toNat, by omega⟩
    have hj : j < 44 := by omega
    rw [I, List.map_cons, lcL]
    simp only [xYes, gIx_SG hj, e, show q < 16777216 from by omega, List.map_cons, Int.toNat_natCast, szl, Nat.reduceLeDiff, Int.reduceLT, Int.reduceLE, Int.reduceNeg, List.length_map, List.length_append, List.nil_append, List.cons_append, at_ok, at_exc, ts_ok, ts_exc, sSeq, sSet, sRet, sRetV, sIf, sNil, sRaise, sAug, sAppOwn, sExt, sAsg, sAsg2, sPar2, sPar3, sBrk, sFor, sSetIx, sTry, calmS, slOf, slA, retOk, fnRes, gIAdd, gICat, xVar, xC, xIf, xTest, xTru, xAnd, xOr, xNot, xAndV, xOrV, xChain, xTup, xLst, xSl, oSome, oNone, op1, op2, opN, opM1, opC, aCons, aNil, lift, g1, g2, dAll, gAdd, gLen_tup, gLen_bor, gLen_new, gLen_bz, wipeS, gIx_tup, gIx_bor, gIx_bz, kS, gEq_int, gNe_int, isi_tt, isi_ts, isi_ti, isi_st, isi_ss, isi_si, isi_it, isi_is, isi_ii, gSub_e, gDiv_e, gMod_e, gLt_e, gLe_e, gGt_e, gGe_e, gNeg, gIs, gIsNot, idR, gInt, gAbs, gTy, ty_int, ty_str, ty_tup, ty_bl, ty_non, intOf, strOf, tupOf, lstOf, seqOf, dctOf, truR, truD, truC, gNm, gNilD, gConsD, gTupD, itemsE, itemsS, itemsV, iE, iV, iRg1, iRevEn, iVs, seqV, seqE, List.getElem?_cons_zero, List.getElem?_cons_succ, List.set_cons_zero, List.set_cons_succ, List.length_cons, List.length_nil, Option.map_some, Option.map_none, if_true, decide_true, decide_false, Bool.false_eq_true, if_false, ite_true, ite_false, reduceIte, Nat.reduceAdd, reduceCtorEq, Bool.not_true, Bool.not_false]
theorem lparts_loop (F : Fd) (m : Nat) (row : List Int) (h : Hs) (s2 s3 s5 s6 : Sl) (s1 : Sl) (hF : ∀ (pre ys : List Int), row = pre ++ ys → ys.length < m → ∀ r, rd m ys = some r → F [.d (.tup (I row)), .d (.int (pre.length : Nat))] h = resL row r h) :
    ∀ (k p : Nat) (acc : List D) (pre ys : List Int) (s8 s9 : Sl) (r : Option (List D × List Int)), row = pre ++ ys → ys.length < m → acc.length + k ≤ 16777216 → rds (rd m) k acc ys = some r →
      match r with
      | none => forL (gNm 8) (sSeq (sSet 9 (opC 2 F (aCons (xVar 0) (aCons (xVar 4) aNil)))) (sSeq (sIf (xTest (op2 gIs (xVar 9) (xC .non))) (sRet (xC .non)) sNil) (sPar2 7 4 (aCons (op2 gAdd (xVar 7) (xTup (aCons (op2 gIx (xVar 9) (xC (.int 0))) aNil))) (aCons (op2 gIx (xVar 9) (xC (.int 1))) aNil))))) (rng p k) [.d (.tup (I row)), s1, s2, s3, .d (.int (pre.length : Nat)), s5, s6, .d (.tup acc), s8, s9] h = some (.ret (.d .non) h)
      | some (ds, zs) => ∃ s8' s9', forL (gNm 8) (sSeq (sSet 9 (opC 2 F (aCons (xVar 0) (aCons (xVar 4) aNil)))) (sSeq (sIf (xTest (op2 gIs (xVar 9) (xC .non))) (sRet (xC .non)) sNil) (sPar2 7 4 (aCons (op2 gAdd (xVar 7) (xTup (aCons (op2 gIx (xVar 9) (xC (.int 0))) aNil))) (aCons (op2 gIx (xVar 9) (xC (.int 1))) aNil))))) (rng p k) [.d (.tup (I row)), s1, s2, s3, .d (.int (pre.length : Nat)), s5, s6, .d (.tup acc), s8, s9] h
          = some (.nx [.d (.tup (I row)), s1, s2, s3, .d (.int ((row.length - zs.length : Nat) : Int)), s5, s6, .d (.tup ds), s8', s9'] h)
  | 0, p, acc, pre, ys, s8, s9, r, hrow, _, hl, hr => by
    rw [rds] at hr
    cases hr
    have : row.length - ys.length = pre.length := by rw [hrow, List.length_append]; omega
    exact ⟨s8, s9, by rw [this]; rfl⟩
  | k + 1, p, acc, pre, ys, s8, s9, r, hrow, hm, hl, hr => by
    rw [rds] at hr
    split at hr
    · cases hr
    · rename_i e
      cases hr
      have eF := hF pre ys hrow hm _ e
      show forL _ _ _ _ _ = _
      rw [rng_succ, forL]
      simp only [eF, resL, szl, Nat.reduceLeDiff, Int.reduceLT, Int.reduceLE, Int.reduceNeg, List.length_map, List.length_append, List.nil_append, List.cons_append, at_ok, at_exc, ts_ok, ts_exc, sSeq, sSet, sRet, sRetV, sIf, sNil, sRaise, sAug, sAppOwn, sExt, sAsg, sAsg2, sPar2, sPar3, sBrk, sFor, sSetIx, sTry, calmS, slOf, slA, retOk, fnRes, gIAdd, gICat, xVar, xC, xIf, xTest, xTru, xAnd, xOr, xNot, xAndV, xOrV, xChain, xTup, xLst, xSl, oSome, oNone, op1, op2, opN, opM1, opC, aCons, aNil, lift, g1, g2, dAll, gAdd, gLen_tup, gLen_bor, gLen_new, gLen_bz, wipeS, gIx_tup, gIx_bor, gIx_bz, kS, gEq_int, gNe_int, isi_tt, isi_ts, isi_ti, isi_st, isi_ss, isi_si, isi_it, isi_is, isi_ii, gSub_e, gDiv_e, gMod_e, gLt_e, gLe_e, gGt_e, gGe_e, gNeg, gIs, gIsNot, idR, gInt, gAbs, gTy, ty_int, ty_str, ty_tup, ty_bl, ty_non, intOf, strOf, tupOf, lstOf, seqOf, dctOf, truR, truD, truC, gNm, gNilD, gConsD, gTupD, itemsE, itemsS, itemsV, iE, iV, iRg1, iRevEn, iVs, seqV, seqE, List.getElem?_cons_zero, List.getElem?_cons_succ, List.set_cons_zero, List.set_cons_succ, List.length_cons, List.length_nil, Option.map_some, Option.map_none, if_true, decide_true, decide_false, Bool.false_eq_true, if_false, ite_true, ite_false, reduceIte, Nat.reduceAdd, reduceCtorEq, Bool.not_true, Bool.not_false]
    · rename_i d zs e
      have eF := hF pre ys hrow hm _ e
      obtain ⟨h1, u, h2⟩ := rd_sfx m _ _ _ e
      have hrow2 : row = (pre ++ u) ++ zs := by rw [hrow, h2, List.append_assoc]
      have hp : row.length - zs.length = (pre ++ u).length := by rw [hrow2, List.length_append]; omega
      have IH := lparts_loop F m row h s2 s3 s5 s6 s1 hF k (p + 1) (acc ++ [d]) (pre ++ u) zs (.d (.int p)) (.d (.tup [d, .int ((row.length - zs.length : Nat) : Int)])) r hrow2 (by omega) (by rw [List.length_append]; show acc.length + 1 + k ≤ _; omega) hr
      have hs : acc.length + 1 ≤ 16777216 := by omega
      have key : forL (gNm 8) (sSeq (sSet 9 (opC 2 F (aCons (xVar 0) (aCons (xVar 4) aNil)))) (sSeq (sIf (xTest (op2 gIs (xVar 9) (xC .non))) (sRet (xC .non)) sNil) (sPar2 7 4 (aCons (op2 gAdd (xVar 7) (xTup (aCons (op2 gIx (xVar 9) (xC (.int 0))) aNil))) (aCons (op2 gIx (xVar 9) (xC (.int 1))) aNil))))) (rng p (k + 1)) [.d (.tup (I row)), s1, s2, s3, .d (.int (pre.length : Nat)), s5, s6, .d (.tup acc), s8, s9] h
          = forL (gNm 8) (sSeq (sSet 9 (opC 2 F (aCons (xVar 0) (aCons (xVar 4) aNil)))) (sSeq (sIf (xTest (op2 gIs (xVar 9) (xC .non))) (sRet (xC .non)) sNil) (sPar2 7 4 (aCons (op2 gAdd (xVar 7) (xTup (aCons (op2 gIx (xVar 9) (xC (.int 0))) aNil))) (aCons (op2 gIx (xVar 9) (xC (.int 1))) aNil))))) (rng (p + 1) k) [.d (.tup (I row)), s1, s2, s3, .d (.int ((pre ++ u).length : Nat)), s5, s6, .d (.tup (acc ++ [d])), .d (.int p), .d (.tup [d, .int ((row.length - zs.length : Nat) : Int)])] h := by
        rw [rng_succ, forL, ← hp]
        simp only [eF, resL, hs, ix_pair0, ix_pair1, szl, Nat.reduceLeDiff, Int.reduceLT, Int.reduceLE, Int.reduceNeg, List.length_map, List.length_append, List.nil_append, List.cons_append, at_ok, at_exc, ts_ok, ts_exc, sSeq, sSet, sRet, sRetV, sIf, sNil, sRaise, sAug, sAppOwn, sExt, sAsg, sAsg2, sPar2, sPar3, sBrk, sFor, sSetIx, sTry, calmS, slOf, slA, retOk, fnRes, gIAdd, gICat, xVar, xC, xIf, xTest, xTru, xAnd, xOr, xNot, xAndV, xOrV, xChain, xTup, xLst, xSl, oSome, oNone, op1, op2, opN, opM1, opC, aCons, aNil, lift, g1, g2, dAll, gAdd, gLen_tup, gLen_bor, gLen_new, gLen_bz, wipeS, gIx_tup, gIx_bor, gIx_bz, kS, gEq_int, gNe_int, isi_tt, isi_ts, isi_ti, isi_st, isi_ss, isi_si, isi_it, isi_is, isi_ii, gSub_e, gDiv_e, gMod_e, gLt_e, gLe_e, gGt_e, gGe_e, gNeg, gIs, gIsNot, idR, gInt, gAbs, gTy, ty_int, ty_str, ty_tup, ty_bl, ty_non, intOf, strOf, tupOf, lstOf, seqOf, dctOf, truR, truD, truC, gNm, gNilD, gConsD, gTupD, itemsE, itemsS, itemsV, iE, iV, iRg1, iRevEn, iVs, seqV, seqE, List.getElem?_cons_zero, List.getElem?_cons_succ, List.set_cons_zero, List.set_cons_succ, List.length_cons, List.length_nil, Option.map_some, Option.map_none, if_true, decide_true, decide_false, Bool.false_eq_true, if_false, ite_true, ite_false, reduceIte, Nat.reduceAdd, reduceCtorEq, Bool.not_true, Bool.not_false]
      rw [key]
      exact IH
end Sh65
set_option Elab.async false
set_option linter.all false
set_option maxRecDepth 100000
set_option maxHeartbeats 4000000
namespace Sh65
open PySem Sh
theorem filter_any (l : List Int) : (l.filter fun s => decide (43 < s)) = [] ↔ ¬ ((l.any fun s => decide (44 ≤ s)) = true) := by
  rw [List.filter_eq_nil_iff, List.any_eq_true]
  constructor
  · rintro h ⟨x, hx, e⟩
    have := h x hx
    simp only [decide_eq_true_eq] at this e
    omega
  · intro h x hx e
    refine h ⟨x, hx, ?_⟩
    simp only [decide_eq_true_eq] at e ⊢
    omega
theorem ev_law_at : ∀ (m n : Nat) (pre sfx : List Int) (h : Hs) (r : Option (D × List Int)), m ≤ n → sfx.length < m → pre.length + sfx.length < 1000000 → Byte (pre ++ sfx) → rd m sfx = some r → run (n + 2) .f_law_at [.d (.tup (I (pre ++ sfx))), .d (.int (pre.length : Nat))] h = resL (pre ++ sfx) r h
  | 0, _, _, _, _, _, _, hm, _, _, _ => absurd hm (Nat.not_lt_zero _)
  | m + 1, n, pre, [], h, r, hn, _, hl, hb, hr => by
    cases hr
    rw [r_f_law_at]
    unfold b_f_law_at
    simp only [I, List.append_nil, show ((pre.length : Int) ≤ (pre.length : Int)) from Int.le_refl _, resL, szl, Nat.reduceLeDiff, Int.reduceLT, Int.reduceLE, Int.reduceNeg, List.length_map, List.length_append, List.nil_append, List.cons_append, at_ok, at_exc, ts_ok, ts_exc, sSeq, sSet, sRet, sRetV, sIf, sNil, sRaise, sAug, sAppOwn, sExt, sAsg, sAsg2, sPar2, sPar3, sBrk, sFor, sSetIx, sTry, calmS, slOf, slA, retOk, fnRes, gIAdd, gICat, xVar, xC, xIf, xTest, xTru, xAnd, xOr, xNot, xAndV, xOrV, xChain, xTup, xLst, xSl, oSome, oNone, op1, op2, opN, opM1, opC, aCons, aNil, lift, g1, g2, dAll, gAdd, gLen_tup, gLen_bor, gLen_new, gLen_bz, wipeS, gIx_tup, gIx_bor, gIx_bz, kS, gEq_int, gNe_int, isi_tt, isi_ts, isi_ti, isi_st, isi_ss, isi_si, isi_it, isi_is, isi_ii, gSub_e, gDiv_e, gMod_e, gLt_e, gLe_e, gGt_e, gGe_e, gNeg, gIs, gIsNot, idR, gInt, gAbs, gTy, ty_int, ty_str, ty_tup, ty_bl, ty_non, intOf, strOf, tupOf, lstOf, seqOf, dctOf, truR, truD, truC, gNm, gNilD, gConsD, gTupD, itemsE, itemsS, itemsV, iE, iV, iRg1, iRevEn, iVs, seqV, seqE, List.getElem?_cons_zero, List.getElem?_cons_succ, List.set_cons_zero, List.set_cons_succ, List.length_cons, List.length_nil, Option.map_some, Option.map_none, if_true, decide_true, decide_false, Bool.false_eq_true, if_false, ite_true, ite_false, reduceIte, Nat.reduceAdd, reduceCtorEq, Bool.not_true, Bool.not_false]
  | m + 1, n, pre, x :: sfx, h, r, hn, hm, hl, hB, hr => by
    have hb : Byte (x :: sfx) := Byte.app hB
    obtain ⟨n, rfl⟩ : ∃ k, n = k + 1 := ⟨n - 1, by omega⟩
    rw [r_f_law_at]
    unfold b_f_law_at
    rw [List.length_cons] at hl hm
    have hg := get_mid pre sfx x
    have hlen : ¬ (((pre.length + (sfx.length + 1) : Nat) : Int) ≤ (pre.length : Int)) := by omega
    rw [rd] at hr
    by_cases hk : x = 1 ∨ x = 2 ∨ x = 3
    · rw [if_pos hk] at hr
      have eN := ev_law_number (n + 1) (pre ++ [x]) sfx h (by rw [List.length_append]; show pre.length + 1 + sfx.length < _; omega) (fun y hy => hb y (List.mem_cons_of_mem _ hy))
      have ea : pre ++ [x] ++ sfx = pre ++ x :: sfx := by simp
      have el : (((pre ++ [x]).length : Nat) : Int) = (pre.length : Int) + 1 := by rw [List.length_append]; rfl
      rw [ea, el] at eN
      have st1 : ∀ f g : SX, sSeq (sIf (xOr (xTest (op2 gGe (xVar 1) (opN (g1 gLen) (aCons (xVar 0) aNil)))) (xTest (op2 gNotIn (op2 gIx (xVar 0) (xVar 1)) (xTup (aCons (xC (.int 1)) (aCons (xC (.int 2)) (aCons (xC (.int 3)) aNil))))))) f sNil) g [slA (.d (.tup (I (pre ++ x :: sfx)))), slA (.d (.int (pre.length : Nat))), .none, .none, .none, .none, .none, .none, .none, .none] h
          = g [.d (.tup (I (pre ++ x :: sfx))), .d (.int (pre.length : Nat)), .none, .none, .none, .none, .none, .none, .none, .none] h := fun f g => by
        simp only [hlen, hg, notIn3, hk, szl, Nat.reduceLeDiff, Int.reduceLT, Int.reduceLE, Int.reduceNeg, List.length_map, List.length_append, List.nil_append, List.cons_append, at_ok, at_exc, ts_ok, ts_exc, sSeq, sSet, sRet, sRetV, sIf, sNil, sRaise, sAug, sAppOwn, sExt, sAsg, sAsg2, sPar2, sPar3, sBrk, sFor, sSetIx, sTry, calmS, slOf, slA, retOk, fnRes, gIAdd, gICat, xVar, xC, xIf, xTest, xTru, xAnd, xOr, xNot, xAndV, xOrV, xChain, xTup, xLst, xSl, oSome, oNone, op1, op2, opN, opM1, opC, aCons, aNil, lift, g1, g2, dAll, gAdd, gLen_tup, gLen_bor, gLen_new, gLen_bz, wipeS, gIx_tup, gIx_bor, gIx_bz, kS, gEq_int, gNe_int, isi_tt, isi_ts, isi_ti, isi_st, isi_ss, isi_si, isi_it, isi_is, isi_ii, gSub_e, gDiv_e, gMod_e, gLt_e, gLe_e, gGt_e, gGe_e, gNeg, gIs, gIsNot, idR, gInt, gAbs, gTy, ty_int, ty_str, ty_tup, ty_bl, ty_non, intOf, strOf, tupOf, lstOf, seqOf, dctOf, truR, truD, truC, gNm, gNilD, gConsD, gTupD, itemsE, itemsS, itemsV, iE, iV, iRg1, iRevEn, iVs, seqV, seqE, List.getElem?_cons_zero, List.getElem?_cons_succ, List.set_cons_zero, List.set_cons_succ, List.length_cons, List.length_nil, Option.map_some, Option.map_none, if_true, decide_true, decide_false, Bool.false_eq_true, if_false, ite_true, ite_false, reduceIte, Nat.reduceAdd, reduceCtorEq, Bool.not_true, Bool.not_false]
      rw [st1]
      cases hn : num sfx with
      | none =>
        rw [hn] at eN hr
        cases hr
        simp only [eN, resL, szl, Nat.reduceLeDiff, Int.reduceLT, Int.reduceLE, Int.reduceNeg, List.length_map, List.length_append, List.nil_append, List.cons_append, at_ok, at_exc, ts_ok, ts_exc, sSeq, sSet, sRet, sRetV, sIf, sNil, sRaise, sAug, sAppOwn, sExt, sAsg, sAsg2, sPar2, sPar3, sBrk, sFor, sSetIx, sTry, calmS, slOf, slA, retOk, fnRes, gIAdd, gICat, xVar, xC, xIf, xTest, xTru, xAnd, xOr, xNot, xAndV, xOrV, xChain, xTup, xLst, xSl, oSome, oNone, op1, op2, opN, opM1, opC, aCons, aNil, lift, g1, g2, dAll, gAdd, gLen_tup, gLen_bor, gLen_new, gLen_bz, wipeS, gIx_tup, gIx_bor, gIx_bz, kS, gEq_int, gNe_int, isi_tt, isi_ts, isi_ti, isi_st, isi_ss, isi_si, isi_it, isi_is, isi_ii, gSub_e, gDiv_e, gMod_e, gLt_e, gLe_e, gGt_e, gGe_e, gNeg, gIs, gIsNot, idR, gInt, gAbs, gTy, ty_int, ty_str, ty_tup, ty_bl, ty_non, intOf, strOf, tupOf, lstOf, seqOf, dctOf, truR, truD, truC, gNm, gNilD, gConsD, gTupD, itemsE, itemsS, itemsV, iE, iV, iRg1, iRevEn, iVs, seqV, seqE, List.getElem?_cons_zero, List.getElem?_cons_succ, List.set_cons_zero, List.set_cons_succ, List.length_cons, List.length_nil, Option.map_some, Option.map_none, if_true, decide_true, decide_false, Bool.false_eq_true, if_false, ite_true, ite_false, reduceIte, Nat.reduceAdd, reduceCtorEq, Bool.not_true, Bool.not_false]
      | some p =>
        obtain ⟨k, ys⟩ := p
        rw [hn] at eN hr
        simp only at eN hr
        obtain ⟨l1, used, e1⟩ := numA_len sfx 1 0 true hn
        have hk0 := numA_nn sfx 1 0 true (fun y hy => hb y (List.mem_cons_of_mem _ hy)) (by decide) (by decide) hn
        obtain ⟨kn, rfl⟩ : ∃ j : Nat, k = (j : Int) := ⟨k.toNat, by omega⟩
        obtain ⟨P, hP⟩ : ∃ P, P = pre ++ x :: used := ⟨_, rfl⟩
        have hrow : pre ++ x :: sfx = P ++ ys := by rw [hP, e1, List.append_assoc]; rfl
        have hby : Byte ys := fun y hy => hb y (List.mem_cons_of_mem _ (by rw [e1]; exact List.mem_append_right _ hy))
        have hPl : P.length + ys.length < 1000000 := by
          have := congrArg List.length hrow
          rw [List.length_append, List.length_append, List.length_cons] at this
          omega
        have hat : (P ++ ys).length - ys.length = P.length := by rw [List.length_append]; omega
        rw [hrow, hat] at eN
        rw [hrow] at hg ⊢
        have st2 : ∀ f g : SX, sSeq (sSet 2 (opC 2 (run (n + 1 + 1) .f_law_number) (aCons (xVar 0) (aCons (op2 gAdd (xVar 1) (xC (.int 1))) aNil)))) (sSeq (sIf (xTest (op2 gIs (xVar 2) (xC .non))) f sNil) (sSeq (sAsg (gTupD 2 (gConsD (gNm 3) (gConsD (gNm 4) gNilD))) (xVar 2)) g)) [.d (.tup (I (P ++ ys))), .d (.int (pre.length : Nat)), .none, .none, .none, .none, .none, .none, .none, .none] h
            = g [.d (.tup (I (P ++ ys))), .d (.int (pre.length : Nat)), .d (.tup [.int (kn : Nat), .int (P.length : Nat)]), .d (.int (kn : Nat)), .d (.int (P.length : Nat)), .none, .none, .none, .none, .none] h := fun f g => by simp only [eN, szl, Nat.reduceLeDiff, Int.reduceLT, Int.reduceLE, Int.reduceNeg, List.length_map, List.length_append, List.nil_append, List.cons_append, at_ok, at_exc, ts_ok, ts_exc, sSeq, sSet, sRet, sRetV, sIf, sNil, sRaise, sAug, sAppOwn, sExt, sAsg, sAsg2, sPar2, sPar3, sBrk, sFor, sSetIx, sTry, calmS, slOf, slA, retOk, fnRes, gIAdd, gICat, xVar, xC, xIf, xTest, xTru, xAnd, xOr, xNot, xAndV, xOrV, xChain, xTup, xLst, xSl, oSome, oNone, op1, op2, opN, opM1, opC, aCons, aNil, lift, g1, g2, dAll, gAdd, gLen_tup, gLen_bor, gLen_new, gLen_bz, wipeS, gIx_tup, gIx_bor, gIx_bz, kS, gEq_int, gNe_int, isi_tt, isi_ts, isi_ti, isi_st, isi_ss, isi_si, isi_it, isi_is, isi_ii, gSub_e, gDiv_e, gMod_e, gLt_e, gLe_e, gGt_e, gGe_e, gNeg, gIs, gIsNot, idR, gInt, gAbs, gTy, ty_int, ty_str, ty_tup, ty_bl, ty_non, intOf, strOf, tupOf, lstOf, seqOf, dctOf, truR, truD, truC, gNm, gNilD, gConsD, gTupD, itemsE, itemsS, itemsV, iE, iV, iRg1, iRevEn, iVs, seqV, seqE, List.getElem?_cons_zero, List.getElem?_cons_succ, List.set_cons_zero, List.set_cons_succ, List.length_cons, List.length_nil, Option.map_some, Option.map_none, if_true, decide_true, decide_false, Bool.false_eq_true, if_false, ite_true, ite_false, reduceIte, Nat.reduceAdd, reduceCtorEq, Bool.not_true, Bool.not_false]
        rw [st2]
        by_cases hx1 : x = 1
        · rw [if_pos hx1] at hr
          cases hr
          subst hx1
          by_cases hev : (kn : Int) % 2 = 0
          · simp only [hg, hev, resL, unzz, szl, Nat.reduceLeDiff, Int.reduceLT, Int.reduceLE, Int.reduceNeg, List.length_map, List.length_append, List.nil_append, List.cons_append, at_ok, at_exc, ts_ok, ts_exc, sSeq, sSet, sRet, sRetV, sIf, sNil, sRaise, sAug, sAppOwn, sExt, sAsg, sAsg2, sPar2, sPar3, sBrk, sFor, sSetIx, sTry, calmS, slOf, slA, retOk, fnRes, gIAdd, gICat, xVar, xC, xIf, xTest, xTru, xAnd, xOr, xNot, xAndV, xOrV, xChain, xTup, xLst, xSl, oSome, oNone, op1, op2, opN, opM1, opC, aCons, aNil, lift, g1, g2, dAll, gAdd, gLen_tup, gLen_bor, gLen_new, gLen_bz, wipeS, gIx_tup, gIx_bor, gIx_bz, kS, gEq_int, gNe_int, isi_tt, isi_ts, isi_ti, isi_st, isi_ss, isi_si, isi_it, isi_is, isi_ii, gSub_e, gDiv_e, gMod_e, gLt_e, gLe_e, gGt_e, gGe_e, gNeg, gIs, gIsNot, idR, gInt, gAbs, gTy, ty_int, ty_str, ty_tup, ty_bl, ty_non, intOf, strOf, tupOf, lstOf, seqOf, dctOf, truR, truD, truC, gNm, gNilD, gConsD, gTupD, itemsE, itemsS, itemsV, iE, iV, iRg1, iRevEn, iVs, seqV, seqE, List.getElem?_cons_zero, List.getElem?_cons_succ, List.set_cons_zero, List.set_cons_succ, List.length_cons, List.length_nil, Option.map_some, Option.map_none, if_true, decide_true, decide_false, Bool.false_eq_true, if_false, ite_true, ite_false, reduceIte, Nat.reduceAdd, reduceCtorEq, Bool.not_true, Bool.not_false]
            rw [show P.length + ys.length - ys.length = P.length from by omega]
          · simp only [hg, hev, resL, unzz, szl, Nat.reduceLeDiff, Int.reduceLT, Int.reduceLE, Int.reduceNeg, List.length_map, List.length_append, List.nil_append, List.cons_append, at_ok, at_exc, ts_ok, ts_exc, sSeq, sSet, sRet, sRetV, sIf, sNil, sRaise, sAug, sAppOwn, sExt, sAsg, sAsg2, sPar2, sPar3, sBrk, sFor, sSetIx, sTry, calmS, slOf, slA, retOk, fnRes, gIAdd, gICat, xVar, xC, xIf, xTest, xTru, xAnd, xOr, xNot, xAndV, xOrV, xChain, xTup, xLst, xSl, oSome, oNone, op1, op2, opN, opM1, opC, aCons, aNil, lift, g1, g2, dAll, gAdd, gLen_tup, gLen_bor, gLen_new, gLen_bz, wipeS, gIx_tup, gIx_bor, gIx_bz, kS, gEq_int, gNe_int, isi_tt, isi_ts, isi_ti, isi_st, isi_ss, isi_si, isi_it, isi_is, isi_ii, gSub_e, gDiv_e, gMod_e, gLt_e, gLe_e, gGt_e, gGe_e, gNeg, gIs, gIsNot, idR, gInt, gAbs, gTy, ty_int, ty_str, ty_tup, ty_bl, ty_non, intOf, strOf, tupOf, lstOf, seqOf, dctOf, truR, truD, truC, gNm, gNilD, gConsD, gTupD, itemsE, itemsS, itemsV, iE, iV, iRg1, iRevEn, iVs, seqV, seqE, List.getElem?_cons_zero, List.getElem?_cons_succ, List.set_cons_zero, List.set_cons_succ, List.length_cons, List.length_nil, Option.map_some, Option.map_none, if_true, decide_true, decide_false, Bool.false_eq_true, if_false, ite_true, ite_false, reduceIte, Nat.reduceAdd, reduceCtorEq, Bool.not_true, Bool.not_false]
            rw [show P.length + ys.length - ys.length = P.length from by omega, show (0 : Int) - ((kn : Int) + 1) / 2 = -((kn : Int) + 1) / 2 from by omega]
        · rw [if_neg hx1] at hr
          have st3 : ∀ f g : SX, sSeq (sIf (xTest (op2 gEq (op2 gIx (xVar 0) (xVar 1)) (xC (.int 1)))) f sNil) g [.d (.tup (I (P ++ ys))), .d (.int (pre.length : Nat)), .d (.tup [.int (kn : Nat), .int (P.length : Nat)]), .d (.int (kn : Nat)), .d (.int (P.length : Nat)), .none, .none, .none, .none, .none] h
              = g [.d (.tup (I (P ++ ys))), .d (.int (pre.length : Nat)), .d (.tup [.int (kn : Nat), .int (P.length : Nat)]), .d (.int (kn : Nat)), .d (.int (P.length : Nat)), .none, .none, .none, .none, .none] h := fun f g => by simp only [hg, hx1, szl, Nat.reduceLeDiff, Int.reduceLT, Int.reduceLE, Int.reduceNeg, List.length_map, List.length_append, List.nil_append, List.cons_append, at_ok, at_exc, ts_ok, ts_exc, sSeq, sSet, sRet, sRetV, sIf, sNil, sRaise, sAug, sAppOwn, sExt, sAsg, sAsg2, sPar2, sPar3, sBrk, sFor, sSetIx, sTry, calmS, slOf, slA, retOk, fnRes, gIAdd, gICat, xVar, xC, xIf, xTest, xTru, xAnd, xOr, xNot, xAndV, xOrV, xChain, xTup, xLst, xSl, oSome, oNone, op1, op2, opN, opM1, opC, aCons, aNil, lift, g1, g2, dAll, gAdd, gLen_tup, gLen_bor, gLen_new, gLen_bz, wipeS, gIx_tup, gIx_bor, gIx_bz, kS, gEq_int, gNe_int, isi_tt, isi_ts, isi_ti, isi_st, isi_ss, isi_si, isi_it, isi_is, isi_ii, gSub_e, gDiv_e, gMod_e, gLt_e, gLe_e, gGt_e, gGe_e, gNeg, gIs, gIsNot, idR, gInt, gAbs, gTy, ty_int, ty_str, ty_tup, ty_bl, ty_non, intOf, strOf, tupOf, lstOf, seqOf, dctOf, truR, truD, truC, gNm, gNilD, gConsD, gTupD, itemsE, itemsS, itemsV, iE, iV, iRg1, iRevEn, iVs, seqV, seqE, List.getElem?_cons_zero, List.getElem?_cons_succ, List.set_cons_zero, List.set_cons_succ, List.length_cons, List.length_nil, Option.map_some, Option.map_none, if_true, decide_true, decide_false, Bool.false_eq_true, if_false, ite_true, ite_false, reduceIte, Nat.reduceAdd, reduceCtorEq, Bool.not_true, Bool.not_false]
          rw [st3]
          by_cases hbig : ((P.length + ys.length : Nat) : Int) < (kn : Int)
          · rw [if_pos (show (ys.length : Int) < (kn : Int) from by omega)] at hr
            cases hr
            simp only [hbig, resL, szl, Nat.reduceLeDiff, Int.reduceLT, Int.reduceLE, Int.reduceNeg, List.length_map, List.length_append, List.nil_append, List.cons_append, at_ok, at_exc, ts_ok, ts_exc, sSeq, sSet, sRet, sRetV, sIf, sNil, sRaise, sAug, sAppOwn, sExt, sAsg, sAsg2, sPar2, sPar3, sBrk, sFor, sSetIx, sTry, calmS, slOf, slA, retOk, fnRes, gIAdd, gICat, xVar, xC, xIf, xTest, xTru, xAnd, xOr, xNot, xAndV, xOrV, xChain, xTup, xLst, xSl, oSome, oNone, op1, op2, opN, opM1, opC, aCons, aNil, lift, g1, g2, dAll, gAdd, gLen_tup, gLen_bor, gLen_new, gLen_bz, wipeS, gIx_tup, gIx_bor, gIx_bz, kS, gEq_int, gNe_int, isi_tt, isi_ts, isi_ti, isi_st, isi_ss, isi_si, isi_it, isi_is, isi_ii, gSub_e, gDiv_e, gMod_e, gLt_e, gLe_e, gGt_e, gGe_e, gNeg, gIs, gIsNot, idR, gInt, gAbs, gTy, ty_int, ty_str, ty_tup, ty_bl, ty_non, intOf, strOf, tupOf, lstOf, seqOf, dctOf, truR, truD, truC, gNm, gNilD, gConsD, gTupD, itemsE, itemsS, itemsV, iE, iV, iRg1, iRevEn, iVs, seqV, seqE, List.getElem?_cons_zero, List.getElem?_cons_succ, List.set_cons_zero, List.set_cons_succ, List.length_cons, List.length_nil, Option.map_some, Option.map_none, if_true, decide_true, decide_false, Bool.false_eq_true, if_false, ite_true, ite_false, reduceIte, Nat.reduceAdd, reduceCtorEq, Bool.not_true, Bool.not_false]
          · have st4 : ∀ f g : SX, sSeq (sIf (xTest (op2 gGt (xVar 3) (opN (g1 gLen) (aCons (xVar 0) aNil)))) f sNil) g [.d (.tup (I (P ++ ys))), .d (.int (pre.length : Nat)), .d (.tup [.int (kn : Nat), .int (P.length : Nat)]), .d (.int (kn : Nat)), .d (.int (P.length : Nat)), .none, .none, .none, .none, .none] h
                = g [.d (.tup (I (P ++ ys))), .d (.int (pre.length : Nat)), .d (.tup [.int (kn : Nat), .int (P.length : Nat)]), .d (.int (kn : Nat)), .d (.int (P.length : Nat)), .none, .none, .none, .none, .none] h := fun f g => by simp only [hbig, szl, Nat.reduceLeDiff, Int.reduceLT, Int.reduceLE, Int.reduceNeg, List.length_map, List.length_append, List.nil_append, List.cons_append, at_ok, at_exc, ts_ok, ts_exc, sSeq, sSet, sRet, sRetV, sIf, sNil, sRaise, sAug, sAppOwn, sExt, sAsg, sAsg2, sPar2, sPar3, sBrk, sFor, sSetIx, sTry, calmS, slOf, slA, retOk, fnRes, gIAdd, gICat, xVar, xC, xIf, xTest, xTru, xAnd, xOr, xNot, xAndV, xOrV, xChain, xTup, xLst, xSl, oSome, oNone, op1, op2, opN, opM1, opC, aCons, aNil, lift, g1, g2, dAll, gAdd, gLen_tup, gLen_bor, gLen_new, gLen_bz, wipeS, gIx_tup, gIx_bor, gIx_bz, kS, gEq_int, gNe_int, isi_tt, isi_ts, isi_ti, isi_st, isi_ss, isi_si, isi_it, isi_is, isi_ii, gSub_e, gDiv_e, gMod_e, gLt_e, gLe_e, gGt_e, gGe_e, gNeg, gIs, gIsNot, idR, gInt, gAbs, gTy, ty_int, ty_str, ty_tup, ty_bl, ty_non, intOf, strOf, tupOf, lstOf, seqOf, dctOf, truR, truD, truC, gNm, gNilD, gConsD, gTupD, itemsE, itemsS, itemsV, iE, iV, iRg1, iRevEn, iVs, seqV, seqE, List.getElem?_cons_zero, List.getElem?_cons_succ, List.set_cons_zero, List.set_cons_succ, List.length_cons, List.length_nil, Option.map_some, Option.map_none, if_true, decide_true, decide_false, Bool.false_eq_true, if_false, ite_true, ite_false, reduceIte, Nat.reduceAdd, reduceCtorEq, Bool.not_true, Bool.not_false]
            rw [st4]
            by_cases hx2 : x = 2
            · subst hx2
              have hlt2 : (ys.take kn).length ≤ 16777216 := by rw [List.length_take]; omega
              have eb := lc_big (.d (.tup (I (P ++ ys)))) (.d (.int (pre.length : Nat))) (.d (.tup [.int (kn : Nat), .int (P.length : Nat)])) (.d (.int (kn : Nat))) (.d (.int (P.length : Nat))) (.d (.tup (I (ys.take kn)))) .none .none .none h (ys.take kn) 0 (by omega)
              by_cases hgt : (ys.length : Int) < (kn : Int)
              · rw [if_pos hgt] at hr
                cases hr
                have hsl : (((ys.take kn).length : Nat) : Int) < (kn : Int) := by rw [List.length_take]; omega
                simp only [hg, hx1, gSl_tup, cut_mid, hsl, resL, szl, Nat.reduceLeDiff, Int.reduceLT, Int.reduceLE, Int.reduceNeg, List.length_map, List.length_append, List.nil_append, List.cons_append, at_ok, at_exc, ts_ok, ts_exc, sSeq, sSet, sRet, sRetV, sIf, sNil, sRaise, sAug, sAppOwn, sExt, sAsg, sAsg2, sPar2, sPar3, sBrk, sFor, sSetIx, sTry, calmS, slOf, slA, retOk, fnRes, gIAdd, gICat, xVar, xC, xIf, xTest, xTru, xAnd, xOr, xNot, xAndV, xOrV, xChain, xTup, xLst, xSl, oSome, oNone, op1, op2, opN, opM1, opC, aCons, aNil, lift, g1, g2, dAll, gAdd, gLen_tup, gLen_bor, gLen_new, gLen_bz, wipeS, gIx_tup, gIx_bor, gIx_bz, kS, gEq_int, gNe_int, isi_tt, isi_ts, isi_ti, isi_st, isi_ss, isi_si, isi_it, isi_is, isi_ii, gSub_e, gDiv_e, gMod_e, gLt_e, gLe_e, gGt_e, gGe_e, gNeg, gIs, gIsNot, idR, gInt, gAbs, gTy, ty_int, ty_str, ty_tup, ty_bl, ty_non, intOf, strOf, tupOf, lstOf, seqOf, dctOf, truR, truD, truC, gNm, gNilD, gConsD, gTupD, itemsE, itemsS, itemsV, iE, iV, iRg1, iRevEn, iVs, seqV, seqE, List.getElem?_cons_zero, List.getElem?_cons_succ, List.set_cons_zero, List.set_cons_succ, List.length_cons, List.length_nil, Option.map_some, Option.map_none, if_true, decide_true, decide_false, Bool.false_eq_true, if_false, ite_true, ite_false, reduceIte, Nat.reduceAdd, reduceCtorEq, Bool.not_true, Bool.not_false]
              · rw [if_neg hgt] at hr
                have hkl : kn ≤ ys.length := by omega
                have hsl : ¬ ((((ys.take kn).length : Nat) : Int) < (kn : Int)) := by rw [List.length_take]; omega
                rw [if_pos rfl, Int.toNat_natCast] at hr
                by_cases han : (ys.take kn).any (fun s => decide (44 ≤ s)) = true
                · rw [if_pos han] at hr
                  cases hr
                  have hf : ¬ (((ys.take kn).filter fun s => decide (43 < s)) = []) := fun z => (filter_any _).mp z han
                  simp only [hg, hx1, gSl_tup, cut_mid, hsl, xLc, eb, gNe_nil, hf, resL, Nat.zero_le, szl, Nat.reduceLeDiff, Int.reduceLT, Int.reduceLE, Int.reduceNeg, List.length_map, List.length_append, List.nil_append, List.cons_append, at_ok, at_exc, ts_ok, ts_exc, sSeq, sSet, sRet, sRetV, sIf, sNil, sRaise, sAug, sAppOwn, sExt, sAsg, sAsg2, sPar2, sPar3, sBrk, sFor, sSetIx, sTry, calmS, slOf, slA, retOk, fnRes, gIAdd, gICat, xVar, xC, xIf, xTest, xTru, xAnd, xOr, xNot, xAndV, xOrV, xChain, xTup, xLst, xSl, oSome, oNone, op1, op2, opN, opM1, opC, aCons, aNil, lift, g1, g2, dAll, gAdd, gLen_tup, gLen_bor, gLen_new, gLen_bz, wipeS, gIx_tup, gIx_bor, gIx_bz, kS, gEq_int, gNe_int, isi_tt, isi_ts, isi_ti, isi_st, isi_ss, isi_si, isi_it, isi_is, isi_ii, gSub_e, gDiv_e, gMod_e, gLt_e, gLe_e, gGt_e, gGe_e, gNeg, gIs, gIsNot, idR, gInt, gAbs, gTy, ty_int, ty_str, ty_tup, ty_bl, ty_non, intOf, strOf, tupOf, lstOf, seqOf, dctOf, truR, truD, truC, gNm, gNilD, gConsD, gTupD, itemsE, itemsS, itemsV, iE, iV, iRg1, iRevEn, iVs, seqV, seqE, List.getElem?_cons_zero, List.getElem?_cons_succ, List.set_cons_zero, List.set_cons_succ, List.length_cons, List.length_nil, Option.map_some, Option.map_none, if_true, decide_true, decide_false, Bool.false_eq_true, if_false, ite_true, ite_false, reduceIte, Nat.reduceAdd, reduceCtorEq, Bool.not_true, Bool.not_false]
                · rw [if_neg han] at hr
                  cases hr
                  have hf := (filter_any _).mpr han
                  have hlt : ∀ b ∈ ys.take kn, b < 44 := fun b hb' => by
                    have hz : ¬ (44 ≤ b) := fun z => han (List.any_eq_true.mpr ⟨b, hb', decide_eq_true z⟩)
                    omega
                  have hbt : Byte (ys.take kn) := fun b hb' => hby b (List.mem_of_mem_take hb')
                  have el2 := lc_sgn6 (.d (.tup (I (P ++ ys)))) (.d (.int (pre.length : Nat))) (.d (.tup [.int (kn : Nat), .int (P.length : Nat)])) (.d (.int (kn : Nat))) (.d (.int (P.length : Nat))) (.d (.tup (I (ys.take kn)))) .none .none .none h (ys.take kn) 0 hbt hlt (by omega)
                  have ej := join_txt ((ys.take kn).map Int.toNat) h (by rw [List.length_map]; exact hlt2)
                  simp only [hg, hx1, gSl_tup, cut_mid, hsl, xLc, eb, gNe_nil, hf, el2, ej, resL, List.length_drop, Nat.zero_le, szl, Nat.reduceLeDiff, Int.reduceLT, Int.reduceLE, Int.reduceNeg, List.length_map, List.length_append, List.nil_append, List.cons_append, at_ok, at_exc, ts_ok, ts_exc, sSeq, sSet, sRet, sRetV, sIf, sNil, sRaise, sAug, sAppOwn, sExt, sAsg, sAsg2, sPar2, sPar3, sBrk, sFor, sSetIx, sTry, calmS, slOf, slA, retOk, fnRes, gIAdd, gICat, xVar, xC, xIf, xTest, xTru, xAnd, xOr, xNot, xAndV, xOrV, xChain, xTup, xLst, xSl, oSome, oNone, op1, op2, opN, opM1, opC, aCons, aNil, lift, g1, g2, dAll, gAdd, gLen_tup, gLen_bor, gLen_new, gLen_bz, wipeS, gIx_tup, gIx_bor, gIx_bz, kS, gEq_int, gNe_int, isi_tt, isi_ts, isi_ti, isi_st, isi_ss, isi_si, isi_it, isi_is, isi_ii, gSub_e, gDiv_e, gMod_e, gLt_e, gLe_e, gGt_e, gGe_e, gNeg, gIs, gIsNot, idR, gInt, gAbs, gTy, ty_int, ty_str, ty_tup, ty_bl, ty_non, intOf, strOf, tupOf, lstOf, seqOf, dctOf, truR, truD, truC, gNm, gNilD, gConsD, gTupD, itemsE, itemsS, itemsV, iE, iV, iRg1, iRevEn, iVs, seqV, seqE, List.getElem?_cons_zero, List.getElem?_cons_succ, List.set_cons_zero, List.set_cons_succ, List.length_cons, List.length_nil, Option.map_some, Option.map_none, if_true, decide_true, decide_false, Bool.false_eq_true, if_false, ite_true, ite_false, reduceIte, Nat.reduceAdd, reduceCtorEq, Bool.not_true, Bool.not_false]
                  rw [show P.length + ys.length - (ys.length - kn) = P.length + kn from by omega]
                  rfl
            · have st5 : ∀ f g : SX, sSeq (sIf (xTest (op2 gEq (op2 gIx (xVar 0) (xVar 1)) (xC (.int 2)))) f sNil) (sSeq (sSet 7 (xTup aNil)) g) [.d (.tup (I (P ++ ys))), .d (.int (pre.length : Nat)), .d (.tup [.int (kn : Nat), .int (P.length : Nat)]), .d (.int (kn : Nat)), .d (.int (P.length : Nat)), .none, .none, .none, .none, .none] h
                  = g [.d (.tup (I (P ++ ys))), .d (.int (pre.length : Nat)), .d (.tup [.int (kn : Nat), .int (P.length : Nat)]), .d (.int (kn : Nat)), .d (.int (P.length : Nat)), .none, .none, .d (.tup []), .none, .none] h := fun f g => by simp only [hg, hx2, Nat.zero_le, szl, Nat.reduceLeDiff, Int.reduceLT, Int.reduceLE, Int.reduceNeg, List.length_map, List.length_append, List.nil_append, List.cons_append, at_ok, at_exc, ts_ok, ts_exc, sSeq, sSet, sRet, sRetV, sIf, sNil, sRaise, sAug, sAppOwn, sExt, sAsg, sAsg2, sPar2, sPar3, sBrk, sFor, sSetIx, sTry, calmS, slOf, slA, retOk, fnRes, gIAdd, gICat, xVar, xC, xIf, xTest, xTru, xAnd, xOr, xNot, xAndV, xOrV, xChain, xTup, xLst, xSl, oSome, oNone, op1, op2, opN, opM1, opC, aCons, aNil, lift, g1, g2, dAll, gAdd, gLen_tup, gLen_bor, gLen_new, gLen_bz, wipeS, gIx_tup, gIx_bor, gIx_bz, kS, gEq_int, gNe_int, isi_tt, isi_ts, isi_ti, isi_st, isi_ss, isi_si, isi_it, isi_is, isi_ii, gSub_e, gDiv_e, gMod_e, gLt_e, gLe_e, gGt_e, gGe_e, gNeg, gIs, gIsNot, idR, gInt, gAbs, gTy, ty_int, ty_str, ty_tup, ty_bl, ty_non, intOf, strOf, tupOf, lstOf, seqOf, dctOf, truR, truD, truC, gNm, gNilD, gConsD, gTupD, itemsE, itemsS, itemsV, iE, iV, iRg1, iRevEn, iVs, seqV, seqE, List.getElem?_cons_zero, List.getElem?_cons_succ, List.set_cons_zero, List.set_cons_succ, List.length_cons, List.length_nil, Option.map_some, Option.map_none, if_true, decide_true, decide_false, Bool.false_eq_true, if_false, ite_true, ite_false, reduceIte, Nat.reduceAdd, reduceCtorEq, Bool.not_true, Bool.not_false]
              rw [st5]
              have hF : ∀ (pre' ys' : List Int), P ++ ys = pre' ++ ys' → ys'.length < m → ∀ r, rd m ys' = some r → run (n + 1 + 1) .f_law_at [.d (.tup (I (P ++ ys))), .d (.int (pre'.length : Nat))] h = resL (P ++ ys) r h := fun pre' ys' e hm' r hr' => by
                rw [e]
                refine ev_law_at m n pre' ys' h r (by omega) hm' ?_ ?_ hr'
                · have := congrArg List.length e
                  rw [List.length_append, List.length_append] at this
                  omega
                · rw [← e, ← hrow]
                  exact hB
              have hg2 := inRg_ok (n := (kn : Int)) (by omega) (by omega)
              have hym : ys.length < m := by omega
              obtain ⟨rr, er⟩ := rds_def (rd_def m) kn [] ys hym
              have L := lparts_loop (run (n + 1 + 1) .f_law_at) m (P ++ ys) h (.d (.tup [.int (kn : Nat), .int (P.length : Nat)])) (.d (.int (kn : Nat))) .none .none (.d (.int (pre.length : Nat))) hF kn 0 [] P ys .none .none rr rfl hym (by rw [List.length_nil]; omega) er
              have hrr : r = rr.map fun q => (D.tup q.1, q.2) := by
                by_cases hgt : (ys.length : Int) < (kn : Int)
                · rw [if_pos hgt] at hr
                  cases hr
                  cases rr with
                  | none => rfl
                  | some q =>
                    obtain ⟨ds, zs⟩ := q
                    have := (rds_sfx (rd_sfx m) _ _ _ _ _ er).1
                    omega
                · rw [if_neg hgt, if_neg hx2, Int.toNat_natCast, er] at hr
                  cases rr with
                  | none => cases hr; rfl
                  | some q => cases hr; rfl
              subst hrr
              cases rr with
              | none =>
                simp only [hg2, rangeD_rng, L, resL, szl, Nat.reduceLeDiff, Int.reduceLT, Int.reduceLE, Int.reduceNeg, List.length_map, List.length_append, List.nil_append, List.cons_append, at_ok, at_exc, ts_ok, ts_exc, sSeq, sSet, sRet, sRetV, sIf, sNil, sRaise, sAug, sAppOwn, sExt, sAsg, sAsg2, sPar2, sPar3, sBrk, sFor, sSetIx, sTry, calmS, slOf, slA, retOk, fnRes, gIAdd, gICat, xVar, xC, xIf, xTest, xTru, xAnd, xOr, xNot, xAndV, xOrV, xChain, xTup, xLst, xSl, oSome, oNone, op1, op2, opN, opM1, opC, aCons, aNil, lift, g1, g2, dAll, gAdd, gLen_tup, gLen_bor, gLen_new, gLen_bz, wipeS, gIx_tup, gIx_bor, gIx_bz, kS, gEq_int, gNe_int, isi_tt, isi_ts, isi_ti, isi_st, isi_ss, isi_si, isi_it, isi_is, isi_ii, gSub_e, gDiv_e, gMod_e, gLt_e, gLe_e, gGt_e, gGe_e, gNeg, gIs, gIsNot, idR, gInt, gAbs, gTy, ty_int, ty_str, ty_tup, ty_bl, ty_non, intOf, strOf, tupOf, lstOf, seqOf, dctOf, truR, truD, truC, gNm, gNilD, gConsD, gTupD, itemsE, itemsS, itemsV, iE, iV, iRg1, iRevEn, iVs, seqV, seqE, List.getElem?_cons_zero, List.getElem?_cons_succ, List.set_cons_zero, List.set_cons_succ, List.length_cons, List.length_nil, Option.map_some, Option.map_none, if_true, decide_true, decide_false, Bool.false_eq_true, if_false, ite_true, ite_false, reduceIte, Nat.reduceAdd, reduceCtorEq, Bool.not_true, Bool.not_false]
              | some q =>
                obtain ⟨ds, zs⟩ := q
                obtain ⟨s8', s9', e⟩ := L
                simp only [hg2, rangeD_rng, e, resL, szl, Nat.reduceLeDiff, Int.reduceLT, Int.reduceLE, Int.reduceNeg, List.length_map, List.length_append, List.nil_append, List.cons_append, at_ok, at_exc, ts_ok, ts_exc, sSeq, sSet, sRet, sRetV, sIf, sNil, sRaise, sAug, sAppOwn, sExt, sAsg, sAsg2, sPar2, sPar3, sBrk, sFor, sSetIx, sTry, calmS, slOf, slA, retOk, fnRes, gIAdd, gICat, xVar, xC, xIf, xTest, xTru, xAnd, xOr, xNot, xAndV, xOrV, xChain, xTup, xLst, xSl, oSome, oNone, op1, op2, opN, opM1, opC, aCons, aNil, lift, g1, g2, dAll, gAdd, gLen_tup, gLen_bor, gLen_new, gLen_bz, wipeS, gIx_tup, gIx_bor, gIx_bz, kS, gEq_int, gNe_int, isi_tt, isi_ts, isi_ti, isi_st, isi_ss, isi_si, isi_it, isi_is, isi_ii, gSub_e, gDiv_e, gMod_e, gLt_e, gLe_e, gGt_e, gGe_e, gNeg, gIs, gIsNot, idR, gInt, gAbs, gTy, ty_int, ty_str, ty_tup, ty_bl, ty_non, intOf, strOf, tupOf, lstOf, seqOf, dctOf, truR, truD, truC, gNm, gNilD, gConsD, gTupD, itemsE, itemsS, itemsV, iE, iV, iRg1, iRevEn, iVs, seqV, seqE, List.getElem?_cons_zero, List.getElem?_cons_succ, List.set_cons_zero, List.set_cons_succ, List.length_cons, List.length_nil, Option.map_some, Option.map_none, if_true, decide_true, decide_false, Bool.false_eq_true, if_false, ite_true, ite_false, reduceIte, Nat.reduceAdd, reduceCtorEq, Bool.not_true, Bool.not_false]
    · rw [if_neg hk] at hr
      cases hr
      simp only [hlen, hg, notIn3, hk, resL, szl, Nat.reduceLeDiff, Int.reduceLT, Int.reduceLE, Int.reduceNeg, List.length_map, List.length_append, List.nil_append, List.cons_append, at_ok, at_exc, ts_ok, ts_exc, sSeq, sSet, sRet, sRetV, sIf, sNil, sRaise, sAug, sAppOwn, sExt, sAsg, sAsg2, sPar2, sPar3, sBrk, sFor, sSetIx, sTry, calmS, slOf, slA, retOk, fnRes, gIAdd, gICat, xVar, xC, xIf, xTest, xTru, xAnd, xOr, xNot, xAndV, xOrV, xChain, xTup, xLst, xSl, oSome, oNone, op1, op2, opN, opM1, opC, aCons, aNil, lift, g1, g2, dAll, gAdd, gLen_tup, gLen_bor, gLen_new, gLen_bz, wipeS, gIx_tup, gIx_bor, gIx_bz, kS, gEq_int, gNe_int, isi_tt, isi_ts, isi_ti, isi_st, isi_ss, isi_si, isi_it, isi_is, isi_ii, gSub_e, gDiv_e, gMod_e, gLt_e, gLe_e, gGt_e, gGe_e, gNeg, gIs, gIsNot, idR, gInt, gAbs, gTy, ty_int, ty_str, ty_tup, ty_bl, ty_non, intOf, strOf, tupOf, lstOf, seqOf, dctOf, truR, truD, truC, gNm, gNilD, gConsD, gTupD, itemsE, itemsS, itemsV, iE, iV, iRg1, iRevEn, iVs, seqV, seqE, List.getElem?_cons_zero, List.getElem?_cons_succ, List.set_cons_zero, List.set_cons_succ, List.length_cons, List.length_nil, Option.map_some, Option.map_none, if_true, decide_true, decide_false, Bool.false_eq_true, if_false, ite_true, ite_false, reduceIte, Nat.reduceAdd, reduceCtorEq, Bool.not_true, Bool.not_false]
end Sh65
set_option Elab.async false
set_option linter.all false
set_option maxRecDepth 100000
set_option maxHeartbeats 4000000
namespace Sh65
open PySem Sh
/-! ### what is written is read again -/
theorem digs_byte : ∀ (v : Nat), Byte (digs v) := by
  intro v
  induction v using Nat.strongRecOn with
  | ind v ih =>
    by_cases h : v < 128
    · rw [digs_lt h]
      intro x hx
      rw [List.mem_singleton.mp hx]
      omega
    · rw [digs_ge h]
      intro x hx
      rcases List.mem_cons.mp hx with e | e
      · rw [e]; omega
      · exact ih (v / 128) (by omega) x e
theorem numA_digs : ∀ (v : Nat) (t k : Int) (f : Bool) (rest : List Int), v ≠ 0 ∨ f = true → numA t k f (digs v ++ rest) = some (k + t * (v : Int), rest) := by
  intro v
  induction v using Nat.strongRecOn with
  | ind v ih =>
    intro t k f rest hf
    by_cases h : v < 128
    · rw [digs_lt h]
      show numA t k f ((v : Int) :: rest) = _
      rw [numA, if_neg (by omega), if_neg ?_]
      rintro ⟨h1, h2⟩
      rcases hf with hf | hf
      · omega
      · rw [hf] at h2; cases h2
    · rw [digs_ge h]
      show numA t k f (((v % 128 + 128 : Nat) : Int) :: (digs (v / 128) ++ rest)) = _
      rw [numA, if_pos (by omega), ih (v / 128) (by omega) _ _ _ _ (.inl (by omega))]
      congr 2
      have e1 : (((v % 128 + 128 : Nat) : Int) - 128) = ((v % 128 : Nat) : Int) := by omega
      rw [e1, Int.mul_assoc, Int.add_assoc, ← Int.mul_add]
      congr 2
      omega
theorem num_digs (v : Nat) (rest : List Int) : num (digs v ++ rest) = some ((v : Int), rest) := by
  unfold num
  rw [numA_digs v 1 0 true rest (.inr rfl), Int.zero_add, Int.one_mul]
theorem unzz_zz (i : Int) : unzz ((zz i : Nat) : Int) = i := by
  unfold unzz
  by_cases h : 0 ≤ i
  · rw [zz_pos h, if_pos (by omega)]; omega
  · rw [zz_neg h, if_neg (by omega)]; omega
theorem enc_byte : ∀ (m : Nat) (d : D), Ok m d → Byte (enc m d)
  | 0, _, h => h.elim
  | m + 1, .int i, h => by
    intro x hx
    rcases List.mem_cons.mp hx with e | e
    · rw [e]; omega
    · exact digs_byte _ x e
  | m + 1, .str z, ⟨js, hj, hl, hz⟩ => by
    subst hz
    intro x hx
    rw [enc, idx_txt js hj] at hx
    rcases List.mem_cons.mp hx with e | e
    · rw [e]; omega
    · rcases List.mem_append.mp e with e | e
      · exact digs_byte _ x e
      · obtain ⟨j, hm, rfl⟩ := List.mem_map.mp e
        have := hj j hm
        omega
  | m + 1, .tup xs, ⟨hl, hx⟩ => by
    intro x hm
    rw [enc] at hm
    rcases List.mem_cons.mp hm with e | e
    · rw [e]; omega
    · rcases List.mem_append.mp e with e | e
      · exact digs_byte _ x e
      · obtain ⟨l, hl', e⟩ := List.mem_flatten.mp e
        obtain ⟨y, hy, rfl⟩ := List.mem_map.mp hl'
        exact enc_byte m y (hx y hy) x e
  | m + 1, .non, h => h.elim
  | m + 1, .bl _, h => h.elim
  | m + 1, .ty _, h => h.elim
  | m + 1, .ref _, h => h.elim
theorem enc_pos : ∀ (m : Nat) (d : D), Ok m d → 1 ≤ (enc m d).length
  | 0, _, h => h.elim
  | m + 1, .int i, h => by rw [enc, List.length_cons]; omega
  | m + 1, .str z, _ => by rw [enc, List.length_cons]; omega
  | m + 1, .tup xs, _ => by rw [enc, List.length_cons]; omega
  | m + 1, .non, h => h.elim
  | m + 1, .bl _, h => h.elim
  | m + 1, .ty _, h => h.elim
  | m + 1, .ref _, h => h.elim
theorem flat_pos {m : Nat} : ∀ xs : List D, (∀ x ∈ xs, Ok m x) → xs.length ≤ ((xs.map (enc m)).flatten).length
  | [], _ => Nat.zero_le _
  | x :: xs, h => by
    have := enc_pos m x (h x List.mem_cons_self)
    have := flat_pos xs fun y hy => h y (List.mem_cons_of_mem _ hy)
    rw [List.map_cons, List.flatten_cons, List.length_append, List.length_cons]
    omega
theorem rds_enc {m : Nat} (hm : ∀ d rest, Ok m d → rd m (enc m d ++ rest) = some (some (d, rest))) : ∀ (xs acc : List D) (rest : List Int), (∀ x ∈ xs, Ok m x) → rds (rd m) xs.length acc ((xs.map (enc m)).flatten ++ rest) = some (some (acc ++ xs, rest))
  | [], acc, rest, _ => by rw [List.append_nil]; rfl
  | x :: xs, acc, rest, h => by
    rw [List.map_cons, List.flatten_cons, List.append_assoc, List.length_cons, rds, hm x _ (h x List.mem_cons_self)]
    simp only
    rw [rds_enc hm xs (acc ++ [x]) rest fun y hy => h y (List.mem_cons_of_mem _ hy), List.append_assoc]
    rfl
theorem rd_enc : ∀ (m : Nat) (d : D) (rest : List Int), Ok m d → rd m (enc m d ++ rest) = some (some (d, rest))
  | 0, _, _, h => h.elim
  | m + 1, .int i, rest, h => by
    rw [enc, List.cons_append, rd, if_pos (.inl rfl), num_digs]
    simp only
    rw [if_pos trivial, unzz_zz]
  | m + 1, .str z, rest, ⟨js, hj, hl, hz⟩ => by
    subst hz
    have e1 : ((js.map fun (j : Nat) => (j : Int)) ++ rest).take js.length = js.map fun (j : Nat) => (j : Int) := by
      rw [List.take_append_of_le_length (by rw [List.length_map]; exact Nat.le_refl _), List.take_of_length_le (by rw [List.length_map]; exact Nat.le_refl _)]
    have e2 : ((js.map fun (j : Nat) => (j : Int)) ++ rest).drop js.length = rest := by
      rw [List.drop_append_of_le_length (by rw [List.length_map]; exact Nat.le_refl _), List.drop_of_length_le (by rw [List.length_map]; exact Nat.le_refl _)]
      rfl
    have e3 : ¬ ((js.map fun (j : Nat) => (j : Int)).any (fun s => decide (44 ≤ s)) = true) := by
      intro z
      obtain ⟨x, hx, e⟩ := List.any_eq_true.mp z
      obtain ⟨j, hm, rfl⟩ := List.mem_map.mp hx
      have := hj j hm
      simp only [decide_eq_true_eq] at e
      omega
    have e4 : (js.map fun (j : Nat) => (j : Int)).map Int.toNat = js := by
      rw [List.map_map]
      exact (List.map_congr_left fun j _ => Int.toNat_natCast j).trans (List.map_id js)
    rw [enc, idx_txt js hj, txt_len, List.cons_append, rd, if_pos (.inr (.inl rfl)), List.append_assoc, num_digs]
    simp only
    rw [if_neg (by decide), if_neg (by rw [List.length_append, List.length_map]; omega), if_pos trivial, Int.toNat_natCast, e1, if_neg e3, e4, e2]
  | m + 1, .tup xs, rest, ⟨hl, hx⟩ => by
    rw [enc, List.cons_append, rd, if_pos (.inr (.inr rfl)), List.append_assoc, num_digs]
    simp only
    have := flat_pos xs hx
    rw [if_neg (by decide), if_neg (by rw [List.length_append]; omega), if_neg (by decide), Int.toNat_natCast, rds_enc (fun d rest h => rd_enc m d rest h) xs [] rest hx]
    rfl
  | m + 1, .non, _, h => h.elim
  | m + 1, .bl _, _, h => h.elim
  | m + 1, .ty _, _, h => h.elim
  | m + 1, .ref _, _, h => h.elim
end Sh65
set_option Elab.async false
set_option linter.all false
set_option maxRecDepth 100000
set_option maxHeartbeats 4000000
namespace Sh65
open PySem Sh
/-! ### the value that is told -/
def Rda : Nat → D → Prop
  | 0, _ => False
  | _ + 1, .int _ => True
  | _ + 1, .str z => z.length ≤ 16777216
  | n + 1, .tup xs => xs.length ≤ 16777216 ∧ ∀ x ∈ xs, Rda n x
  | _ + 1, _ => False
theorem read_list (F : Fd) (h : Hs) (s0 : Sl) : ∀ (xs : List D) (q : Nat), (∀ x ∈ xs, F [.d x] h = some (.ok (.d x) h)) → q + xs.length ≤ 16777216 → lcL (gNm 1) xYes (opC 1 F (aCons (xVar 1) aNil)) [s0, .none] xs q h = some (xs, h)
  | [], _, _, _ => rfl
  | x :: xs, q, hF, hq => by
    rw [List.length_cons] at hq
    have e := read_list F h s0 xs (q + 1) (fun y hy => hF y (List.mem_cons_of_mem _ hy)) (by omega)
    rw [lcL]
    simp only [xYes, hF x List.mem_cons_self, e, show q < 16777216 from by omega, szl, Nat.reduceLeDiff, Int.reduceLT, Int.reduceLE, Int.reduceNeg, List.length_map, List.length_append, List.nil_append, List.cons_append, at_ok, at_exc, ts_ok, ts_exc, sSeq, sSet, sRet, sRetV, sIf, sNil, sRaise, sAug, sAppOwn, sExt, sAsg, sAsg2, sPar2, sPar3, sBrk, sFor, sSetIx, sTry, calmS, slOf, slA, retOk, fnRes, gIAdd, gICat, xVar, xC, xIf, xTest, xTru, xAnd, xOr, xNot, xAndV, xOrV, xChain, xTup, xLst, xSl, oSome, oNone, op1, op2, opN, opM1, opC, aCons, aNil, lift, g1, g2, dAll, gAdd, gLen_tup, gLen_bor, gLen_new, gLen_bz, wipeS, gIx_tup, gIx_bor, gIx_bz, kS, gEq_int, gNe_int, isi_tt, isi_ts, isi_ti, isi_st, isi_ss, isi_si, isi_it, isi_is, isi_ii, gSub_e, gDiv_e, gMod_e, gLt_e, gLe_e, gGt_e, gGe_e, gNeg, gIs, gIsNot, idR, gInt, gAbs, gTy, ty_int, ty_str, ty_tup, ty_bl, ty_non, intOf, strOf, tupOf, lstOf, seqOf, dctOf, truR, truD, truC, gNm, gNilD, gConsD, gTupD, itemsE, itemsS, itemsV, iE, iV, iRg1, iRevEn, iVs, seqV, seqE, List.getElem?_cons_zero, List.getElem?_cons_succ, List.set_cons_zero, List.set_cons_succ, List.length_cons, List.length_nil, Option.map_some, Option.map_none, if_true, decide_true, decide_false, Bool.false_eq_true, if_false, ite_true, ite_false, reduceIte, Nat.reduceAdd, reduceCtorEq, Bool.not_true, Bool.not_false]
theorem str_nil (z : Str) : (("" : Str) ++ z) = z := by
  show (⟨(("" : Str)).cps ++ z.cps⟩ : Str) = z
  have : (("" : Str)).cps = #[] := rfl
  rw [this, Array.empty_append]
theorem ev_read : ∀ (m n : Nat) (d : D) (h : Hs), Rda m d → m ≤ n → run (n + 1) .f_law_read [.d d] h = some (.ok (.d d) h)
  | 0, _, _, _, h, _ => h.elim
  | m + 1, n, .int i, h, ho, _ => by
    rw [r_f_law_read]
    unfold b_f_law_read
    simp only [szl, Nat.reduceLeDiff, Int.reduceLT, Int.reduceLE, Int.reduceNeg, List.length_map, List.length_append, List.nil_append, List.cons_append, at_ok, at_exc, ts_ok, ts_exc, sSeq, sSet, sRet, sRetV, sIf, sNil, sRaise, sAug, sAppOwn, sExt, sAsg, sAsg2, sPar2, sPar3, sBrk, sFor, sSetIx, sTry, calmS, slOf, slA, retOk, fnRes, gIAdd, gICat, xVar, xC, xIf, xTest, xTru, xAnd, xOr, xNot, xAndV, xOrV, xChain, xTup, xLst, xSl, oSome, oNone, op1, op2, opN, opM1, opC, aCons, aNil, lift, g1, g2, dAll, gAdd, gLen_tup, gLen_bor, gLen_new, gLen_bz, wipeS, gIx_tup, gIx_bor, gIx_bz, kS, gEq_int, gNe_int, isi_tt, isi_ts, isi_ti, isi_st, isi_ss, isi_si, isi_it, isi_is, isi_ii, gSub_e, gDiv_e, gMod_e, gLt_e, gLe_e, gGt_e, gGe_e, gNeg, gIs, gIsNot, idR, gInt, gAbs, gTy, ty_int, ty_str, ty_tup, ty_bl, ty_non, intOf, strOf, tupOf, lstOf, seqOf, dctOf, truR, truD, truC, gNm, gNilD, gConsD, gTupD, itemsE, itemsS, itemsV, iE, iV, iRg1, iRevEn, iVs, seqV, seqE, List.getElem?_cons_zero, List.getElem?_cons_succ, List.set_cons_zero, List.set_cons_succ, List.length_cons, List.length_nil, Option.map_some, Option.map_none, if_true, decide_true, decide_false, Bool.false_eq_true, if_false, ite_true, ite_false, reduceIte, Nat.reduceAdd, reduceCtorEq, Bool.not_true, Bool.not_false]
  | m + 1, n, .str z, h, ho, _ => by
    have hz : z.length ≤ 16777216 := ho
    have h0 : (("" : Str)).length = 0 := rfl
    rw [r_f_law_read]
    unfold b_f_law_read
    simp only [h0, Nat.zero_add, hz, str_nil, szl, Nat.reduceLeDiff, Int.reduceLT, Int.reduceLE, Int.reduceNeg, List.length_map, List.length_append, List.nil_append, List.cons_append, at_ok, at_exc, ts_ok, ts_exc, sSeq, sSet, sRet, sRetV, sIf, sNil, sRaise, sAug, sAppOwn, sExt, sAsg, sAsg2, sPar2, sPar3, sBrk, sFor, sSetIx, sTry, calmS, slOf, slA, retOk, fnRes, gIAdd, gICat, xVar, xC, xIf, xTest, xTru, xAnd, xOr, xNot, xAndV, xOrV, xChain, xTup, xLst, xSl, oSome, oNone, op1, op2, opN, opM1, opC, aCons, aNil, lift, g1, g2, dAll, gAdd, gLen_tup, gLen_bor, gLen_new, gLen_bz, wipeS, gIx_tup, gIx_bor, gIx_bz, kS, gEq_int, gNe_int, isi_tt, isi_ts, isi_ti, isi_st, isi_ss, isi_si, isi_it, isi_is, isi_ii, gSub_e, gDiv_e, gMod_e, gLt_e, gLe_e, gGt_e, gGe_e, gNeg, gIs, gIsNot, idR, gInt, gAbs, gTy, ty_int, ty_str, ty_tup, ty_bl, ty_non, intOf, strOf, tupOf, lstOf, seqOf, dctOf, truR, truD, truC, gNm, gNilD, gConsD, gTupD, itemsE, itemsS, itemsV, iE, iV, iRg1, iRevEn, iVs, seqV, seqE, List.getElem?_cons_zero, List.getElem?_cons_succ, List.set_cons_zero, List.set_cons_succ, List.length_cons, List.length_nil, Option.map_some, Option.map_none, if_true, decide_true, decide_false, Bool.false_eq_true, if_false, ite_true, ite_false, reduceIte, Nat.reduceAdd, reduceCtorEq, Bool.not_true, Bool.not_false]
  | m + 1, n, .tup xs, h, ho, hn => by
    obtain ⟨n, rfl⟩ : ∃ k, n = k + 1 := ⟨n - 1, by omega⟩
    have e := read_list (run (n + 1) .f_law_read) h (.d (.tup xs)) xs 0 (fun x hx => ev_read m n x h (ho.2 x hx) (by omega)) (by have := ho.1; omega)
    rw [r_f_law_read]
    unfold b_f_law_read
    simp only [xLc, e, gTuple, szl, Nat.reduceLeDiff, Int.reduceLT, Int.reduceLE, Int.reduceNeg, List.length_map, List.length_append, List.nil_append, List.cons_append, at_ok, at_exc, ts_ok, ts_exc, sSeq, sSet, sRet, sRetV, sIf, sNil, sRaise, sAug, sAppOwn, sExt, sAsg, sAsg2, sPar2, sPar3, sBrk, sFor, sSetIx, sTry, calmS, slOf, slA, retOk, fnRes, gIAdd, gICat, xVar, xC, xIf, xTest, xTru, xAnd, xOr, xNot, xAndV, xOrV, xChain, xTup, xLst, xSl, oSome, oNone, op1, op2, opN, opM1, opC, aCons, aNil, lift, g1, g2, dAll, gAdd, gLen_tup, gLen_bor, gLen_new, gLen_bz, wipeS, gIx_tup, gIx_bor, gIx_bz, kS, gEq_int, gNe_int, isi_tt, isi_ts, isi_ti, isi_st, isi_ss, isi_si, isi_it, isi_is, isi_ii, gSub_e, gDiv_e, gMod_e, gLt_e, gLe_e, gGt_e, gGe_e, gNeg, gIs, gIsNot, idR, gInt, gAbs, gTy, ty_int, ty_str, ty_tup, ty_bl, ty_non, intOf, strOf, tupOf, lstOf, seqOf, dctOf, truR, truD, truC, gNm, gNilD, gConsD, gTupD, itemsE, itemsS, itemsV, iE, iV, iRg1, iRevEn, iVs, seqV, seqE, List.getElem?_cons_zero, List.getElem?_cons_succ, List.set_cons_zero, List.set_cons_succ, List.length_cons, List.length_nil, Option.map_some, Option.map_none, if_true, decide_true, decide_false, Bool.false_eq_true, if_false, ite_true, ite_false, reduceIte, Nat.reduceAdd, reduceCtorEq, Bool.not_true, Bool.not_false]
  | m + 1, _, .non, _, h, _ => h.elim
  | m + 1, _, .bl _, _, h, _ => h.elim
  | m + 1, _, .ty _, _, h, _ => h.elim
  | m + 1, _, .ref _, _, h, _ => h.elim
theorem Rda.ok : ∀ (m : Nat) (d : D), Ok m d → Rda m d
  | 0, _, h => h.elim
  | m + 1, .int i, h => trivial
  | m + 1, .str z, ⟨js, hj, hl, hz⟩ => by
    subst hz
    show (txt js).length ≤ _
    rw [txt_len]; omega
  | m + 1, .tup xs, ⟨hl, hx⟩ => ⟨by omega, fun x hm => Rda.ok m x (hx x hm)⟩
  | m + 1, .non, h => h.elim
  | m + 1, .bl _, h => h.elim
  | m + 1, .ty _, h => h.elim
  | m + 1, .ref _, h => h.elim
theorem rda_I {row : List Int} (h : row.length ≤ 16777216) (m : Nat) : Rda (m + 2) (.tup (I row)) := by
  refine ⟨by rw [I_len]; exact h, fun x hx => ?_⟩
  obtain ⟨i, _, rfl⟩ := List.mem_map.mp hx
  exact trivial
/-! ### sent -/
theorem ev_sent (m n : Nat) (d : D) (h : Hs) (ho : Ok m d) (hn : m ≤ n) (hm : m ≤ 7) : run (n + 3) .f_sent [.d d] h = some (.ok (.d (.tup (I (enc m d ++ sm (enc m d))))) h) := by
  have e1 := ev_written m n d h ho hn hm
  have hl := enc_len m d ho
  have h4 := p4 hm
  have e2 := ev_sums (n + 1) (.bor (.lst (I (enc m d)))) (enc m d) h (.inr rfl) (by omega)
  have e3 : (sm (enc m d)).length = 2 := rfl
  rw [r_f_sent]
  unfold b_f_sent
  simp only [e1, e2, e3, show (enc m d).length + 2 ≤ 16777216 from by omega, I_app, gTuple, szl, Nat.reduceLeDiff, Int.reduceLT, Int.reduceLE, Int.reduceNeg, List.length_map, List.length_append, List.nil_append, List.cons_append, at_ok, at_exc, ts_ok, ts_exc, sSeq, sSet, sRet, sRetV, sIf, sNil, sRaise, sAug, sAppOwn, sExt, sAsg, sAsg2, sPar2, sPar3, sBrk, sFor, sSetIx, sTry, calmS, slOf, slA, retOk, fnRes, gIAdd, gICat, xVar, xC, xIf, xTest, xTru, xAnd, xOr, xNot, xAndV, xOrV, xChain, xTup, xLst, xSl, oSome, oNone, op1, op2, opN, opM1, opC, aCons, aNil, lift, g1, g2, dAll, gAdd, gLen_tup, gLen_bor, gLen_new, gLen_bz, wipeS, gIx_tup, gIx_bor, gIx_bz, kS, gEq_int, gNe_int, isi_tt, isi_ts, isi_ti, isi_st, isi_ss, isi_si, isi_it, isi_is, isi_ii, gSub_e, gDiv_e, gMod_e, gLt_e, gLe_e, gGt_e, gGe_e, gNeg, gIs, gIsNot, idR, gInt, gAbs, gTy, ty_int, ty_str, ty_tup, ty_bl, ty_non, intOf, strOf, tupOf, lstOf, seqOf, dctOf, truR, truD, truC, gNm, gNilD, gConsD, gTupD, itemsE, itemsS, itemsV, iE, iV, iRg1, iRevEn, iVs, seqV, seqE, List.getElem?_cons_zero, List.getElem?_cons_succ, List.set_cons_zero, List.set_cons_succ, List.length_cons, List.length_nil, Option.map_some, Option.map_none, if_true, decide_true, decide_false, Bool.false_eq_true, if_false, ite_true, ite_false, reduceIte, Nat.reduceAdd, reduceCtorEq, Bool.not_true, Bool.not_false]
theorem bad_signs : anyL true (gNm 1) xYes (op2 gNotIn (xVar 1) (xC (.str k_SIGNS))) [.d (.str "aA"), .none, .none, .none] (signs "aA") h = some (true, h) := by
  have e0 : signs "aA" = [D.str ⟨#[97]⟩, D.str ⟨#[65]⟩] := rfl
  have n1 : gNotIn (.d (.str ⟨#[97]⟩)) (.d (.str k_SIGNS)) h = some (.d (.bl false)) := by
    have : inR (.d (.str ⟨#[97]⟩)) (.d (.str k_SIGNS)) h = some (decide (97 ∈ k_SIGNS.cps.toList)) := rfl
    unfold gNotIn
    rw [this, show decide (97 ∈ k_SIGNS.cps.toList) = true from by decide +kernel] <;> rfl
  have n2 : gNotIn (.d (.str ⟨#[65]⟩)) (.d (.str k_SIGNS)) h = some (.d (.bl true)) := by
    have : inR (.d (.str ⟨#[65]⟩)) (.d (.str k_SIGNS)) h = some (decide (65 ∈ k_SIGNS.cps.toList)) := rfl
    unfold gNotIn
    rw [this, show decide (65 ∈ k_SIGNS.cps.toList) = false from by decide +kernel] <;> rfl
  rw [e0, anyL]
  simp only [xYes, n1, anyL, n2, szl, Nat.reduceLeDiff, Int.reduceLT, Int.reduceLE, Int.reduceNeg, List.length_map, List.length_append, List.nil_append, List.cons_append, at_ok, at_exc, ts_ok, ts_exc, sSeq, sSet, sRet, sRetV, sIf, sNil, sRaise, sAug, sAppOwn, sExt, sAsg, sAsg2, sPar2, sPar3, sBrk, sFor, sSetIx, sTry, calmS, slOf, slA, retOk, fnRes, gIAdd, gICat, xVar, xC, xIf, xTest, xTru, xAnd, xOr, xNot, xAndV, xOrV, xChain, xTup, xLst, xSl, oSome, oNone, op1, op2, opN, opM1, opC, aCons, aNil, lift, g1, g2, dAll, gAdd, gLen_tup, gLen_bor, gLen_new, gLen_bz, wipeS, gIx_tup, gIx_bor, gIx_bz, kS, gEq_int, gNe_int, isi_tt, isi_ts, isi_ti, isi_st, isi_ss, isi_si, isi_it, isi_is, isi_ii, gSub_e, gDiv_e, gMod_e, gLt_e, gLe_e, gGt_e, gGe_e, gNeg, gIs, gIsNot, idR, gInt, gAbs, gTy, ty_int, ty_str, ty_tup, ty_bl, ty_non, intOf, strOf, tupOf, lstOf, seqOf, dctOf, truR, truD, truC, gNm, gNilD, gConsD, gTupD, itemsE, itemsS, itemsV, iE, iV, iRg1, iRevEn, iVs, seqV, seqE, List.getElem?_cons_zero, List.getElem?_cons_succ, List.set_cons_zero, List.set_cons_succ, List.length_cons, List.length_nil, Option.map_some, Option.map_none, if_true, decide_true, decide_false, Bool.false_eq_true, if_false, ite_true, ite_false, reduceIte, Nat.reduceAdd, reduceCtorEq, Bool.not_true, Bool.not_false]
theorem written_bad (n : Nat) (h : Hs) : run (n + 2) .f_written [.d (.str "aA")] h = some (.exc "BadRun" h) := by
  rw [r_f_written]
  unfold b_f_written
  simp only [is_int_s, xAny, bad_signs, szl, Nat.reduceLeDiff, Int.reduceLT, Int.reduceLE, Int.reduceNeg, List.length_map, List.length_append, List.nil_append, List.cons_append, at_ok, at_exc, ts_ok, ts_exc, sSeq, sSet, sRet, sRetV, sIf, sNil, sRaise, sAug, sAppOwn, sExt, sAsg, sAsg2, sPar2, sPar3, sBrk, sFor, sSetIx, sTry, calmS, slOf, slA, retOk, fnRes, gIAdd, gICat, xVar, xC, xIf, xTest, xTru, xAnd, xOr, xNot, xAndV, xOrV, xChain, xTup, xLst, xSl, oSome, oNone, op1, op2, opN, opM1, opC, aCons, aNil, lift, g1, g2, dAll, gAdd, gLen_tup, gLen_bor, gLen_new, gLen_bz, wipeS, gIx_tup, gIx_bor, gIx_bz, kS, gEq_int, gNe_int, isi_tt, isi_ts, isi_ti, isi_st, isi_ss, isi_si, isi_it, isi_is, isi_ii, gSub_e, gDiv_e, gMod_e, gLt_e, gLe_e, gGt_e, gGe_e, gNeg, gIs, gIsNot, idR, gInt, gAbs, gTy, ty_int, ty_str, ty_tup, ty_bl, ty_non, intOf, strOf, tupOf, lstOf, seqOf, dctOf, truR, truD, truC, gNm, gNilD, gConsD, gTupD, itemsE, itemsS, itemsV, iE, iV, iRg1, iRevEn, iVs, seqV, seqE, List.getElem?_cons_zero, List.getElem?_cons_succ, List.set_cons_zero, List.set_cons_succ, List.length_cons, List.length_nil, Option.map_some, Option.map_none, if_true, decide_true, decide_false, Bool.false_eq_true, if_false, ite_true, ite_false, reduceIte, Nat.reduceAdd, reduceCtorEq, Bool.not_true, Bool.not_false]
theorem written_bad2 (m n : Nat) (d : D) (h : Hs) (ho : Ok m d) (hn : m ≤ n) (hm : m ≤ 7) : run (n + 3) .f_written [.d (.tup [d, .str "aA"])] h = some (.exc "BadRun" h) := by
  have e1 := ev_written m n d h ho hn hm
  have hl := enc_len m d ho
  have h4 := p4 hm
  have e := ev_digits 0 (n + 1) 2 h (by decide) (by omega)
  have hd : digs 2 = [2] := by rw [digs_lt (by decide)]; rfl
  rw [hd] at e
  rw [r_f_written]
  unfold b_f_written
  simp only [is_int_t, show ("tuple" = "str") = False from by decide, show ((2 : Nat) : Int) = 2 from rfl, szl, Nat.reduceLeDiff, Int.reduceLT, Int.reduceLE, Int.reduceNeg, List.length_map, List.length_append, List.nil_append, List.cons_append, at_ok, at_exc, ts_ok, ts_exc, sSeq, sSet, sRet, sRetV, sIf, sNil, sRaise, sAug, sAppOwn, sExt, sAsg, sAsg2, sPar2, sPar3, sBrk, sFor, sSetIx, sTry, calmS, slOf, slA, retOk, fnRes, gIAdd, gICat, xVar, xC, xIf, xTest, xTru, xAnd, xOr, xNot, xAndV, xOrV, xChain, xTup, xLst, xSl, oSome, oNone, op1, op2, opN, opM1, opC, aCons, aNil, lift, g1, g2, dAll, gAdd, gLen_tup, gLen_bor, gLen_new, gLen_bz, wipeS, gIx_tup, gIx_bor, gIx_bz, kS, gEq_int, gNe_int, isi_tt, isi_ts, isi_ti, isi_st, isi_ss, isi_si, isi_it, isi_is, isi_ii, gSub_e, gDiv_e, gMod_e, gLt_e, gLe_e, gGt_e, gGe_e, gNeg, gIs, gIsNot, idR, gInt, gAbs, gTy, ty_int, ty_str, ty_tup, ty_bl, ty_non, intOf, strOf, tupOf, lstOf, seqOf, dctOf, truR, truD, truC, gNm, gNilD, gConsD, gTupD, itemsE, itemsS, itemsV, iE, iV, iRg1, iRevEn, iVs, seqV, seqE, List.getElem?_cons_zero, List.getElem?_cons_succ, List.set_cons_zero, List.set_cons_succ, List.length_cons, List.length_nil, Option.map_some, Option.map_none, if_true, decide_true, decide_false, Bool.false_eq_true, if_false, ite_true, ite_false, reduceIte, Nat.reduceAdd, reduceCtorEq, Bool.not_true, Bool.not_false] at e ⊢
  simp only [e, I, List.map_cons, List.map_nil, forL, e1, written_bad, show 2 + (enc m d).length ≤ 16777216 from by omega, szl, Nat.reduceLeDiff, Int.reduceLT, Int.reduceLE, Int.reduceNeg, List.length_map, List.length_append, List.nil_append, List.cons_append, at_ok, at_exc, ts_ok, ts_exc, sSeq, sSet, sRet, sRetV, sIf, sNil, sRaise, sAug, sAppOwn, sExt, sAsg, sAsg2, sPar2, sPar3, sBrk, sFor, sSetIx, sTry, calmS, slOf, slA, retOk, fnRes, gIAdd, gICat, xVar, xC, xIf, xTest, xTru, xAnd, xOr, xNot, xAndV, xOrV, xChain, xTup, xLst, xSl, oSome, oNone, op1, op2, opN, opM1, opC, aCons, aNil, lift, g1, g2, dAll, gAdd, gLen_tup, gLen_bor, gLen_new, gLen_bz, wipeS, gIx_tup, gIx_bor, gIx_bz, kS, gEq_int, gNe_int, isi_tt, isi_ts, isi_ti, isi_st, isi_ss, isi_si, isi_it, isi_is, isi_ii, gSub_e, gDiv_e, gMod_e, gLt_e, gLe_e, gGt_e, gGe_e, gNeg, gIs, gIsNot, idR, gInt, gAbs, gTy, ty_int, ty_str, ty_tup, ty_bl, ty_non, intOf, strOf, tupOf, lstOf, seqOf, dctOf, truR, truD, truC, gNm, gNilD, gConsD, gTupD, itemsE, itemsS, itemsV, iE, iV, iRg1, iRevEn, iVs, seqV, seqE, List.getElem?_cons_zero, List.getElem?_cons_succ, List.set_cons_zero, List.set_cons_succ, List.length_cons, List.length_nil, Option.map_some, Option.map_none, if_true, decide_true, decide_false, Bool.false_eq_true, if_false, ite_true, ite_false, reduceIte, Nat.reduceAdd, reduceCtorEq, Bool.not_true, Bool.not_false]
theorem sent_bad (m n : Nat) (d : D) (h : Hs) (ho : Ok m d) (hn : m ≤ n) (hm : m ≤ 7) : run (n + 4) .f_sent [.d (.tup [d, .str "aA"])] h = some (.exc "BadRun" h) := by
  have e1 := written_bad2 m n d h ho hn hm
  rw [r_f_sent]
  unfold b_f_sent
  simp only [e1, szl, Nat.reduceLeDiff, Int.reduceLT, Int.reduceLE, Int.reduceNeg, List.length_map, List.length_append, List.nil_append, List.cons_append, at_ok, at_exc, ts_ok, ts_exc, sSeq, sSet, sRet, sRetV, sIf, sNil, sRaise, sAug, sAppOwn, sExt, sAsg, sAsg2, sPar2, sPar3, sBrk, sFor, sSetIx, sTry, calmS, slOf, slA, retOk, fnRes, gIAdd, gICat, xVar, xC, xIf, xTest, xTru, xAnd, xOr, xNot, xAndV, xOrV, xChain, xTup, xLst, xSl, oSome, oNone, op1, op2, opN, opM1, opC, aCons, aNil, lift, g1, g2, dAll, gAdd, gLen_tup, gLen_bor, gLen_new, gLen_bz, wipeS, gIx_tup, gIx_bor, gIx_bz, kS, gEq_int, gNe_int, isi_tt, isi_ts, isi_ti, isi_st, isi_ss, isi_si, isi_it, isi_is, isi_ii, gSub_e, gDiv_e, gMod_e, gLt_e, gLe_e, gGt_e, gGe_e, gNeg, gIs, gIsNot, idR, gInt, gAbs, gTy, ty_int, ty_str, ty_tup, ty_bl, ty_non, intOf, strOf, tupOf, lstOf, seqOf, dctOf, truR, truD, truC, gNm, gNilD, gConsD, gTupD, itemsE, itemsS, itemsV, iE, iV, iRg1, iRevEn, iVs, seqV, seqE, List.getElem?_cons_zero, List.getElem?_cons_succ, List.set_cons_zero, List.set_cons_succ, List.length_cons, List.length_nil, Option.map_some, Option.map_none, if_true, decide_true, decide_false, Bool.false_eq_true, if_false, ite_true, ite_false, reduceIte, Nat.reduceAdd, reduceCtorEq, Bool.not_true, Bool.not_false]
end Sh65
set_option Elab.async false
set_option linter.all false
set_option maxRecDepth 100000
set_option maxHeartbeats 4000000
namespace Sh65
open PySem Sh
/-! ### received -/
def no : D := .tup [.str "no"]
def yes (d : D) : D := .tup [.str "yes", d]
def tail2 (row : List Int) : List Int := row.drop (row.length - 2)
def body2 (row : List Int) : List Int := row.take (row.length - 2)
theorem cut_tail {row : List Int} (h : 2 ≤ row.length) : cutD (I row) (some (-2)) none = I (tail2 row) := by
  have e : HT.sIx (I row).length 0 (some (-2)) = row.length - 2 := by
    show (if (-2 : Int) < 0 then ((-2 : Int) + ((I row).length : Int)).toNat else min (-2 : Int).toNat (I row).length) = _
    rw [if_pos (by decide), I_len]; omega
  have e2 : HT.sIx (I row).length (I row).length none = row.length := by rw [HT.sIx_none, I_len]
  unfold cutD tail2
  rw [e, e2, I, ← List.map_drop, List.take_of_length_le (by rw [List.length_map, List.length_drop]; exact Nat.le_refl _)]
theorem cut_body {row : List Int} (h : 2 ≤ row.length) : cutD (I row) none (some (-2)) = I (body2 row) := by
  have e : HT.sIx (I row).length (I row).length (some (-2)) = row.length - 2 := by
    show (if (-2 : Int) < 0 then ((-2 : Int) + ((I row).length : Int)).toNat else min (-2 : Int).toNat (I row).length) = _
    rw [if_pos (by decide), I_len]; omega
  unfold cutD body2
  rw [e, HT.sIx_none, I, List.drop_zero, Nat.sub_zero, ← List.map_take]
theorem mW : m_Wrong "Wrong" = some true := if_pos rfl
def okB (row : List Int) : Bool := row.all fun x => decide (0 ≤ x) && decide (x ≤ 255)
theorem okB_byte {row : List Int} : okB row = true ↔ Byte row := by
  unfold okB Byte
  rw [List.all_eq_true]
  simp only [Bool.and_eq_true, decide_eq_true_eq]
theorem all_bytes (n : Nat) (s0 s2 s3 : Sl) (h : Hs) : ∀ row : List Int, anyL false (gNm 1) xYes (xAndV (opC 1 (run (n + 1) .f_is_int) (aCons (xVar 1) aNil)) (xChain gLe gLe (xC (.int 0)) (xVar 1) (xC (.int 255)))) [s0, .none, s2, s3] (I row) h = some (okB row, h)
  | [] => rfl
  | x :: row => by
    have e := all_bytes n s0 s2 s3 h row
    have ek : okB (x :: row) = (decide (0 ≤ x) && decide (x ≤ 255) && okB row) := rfl
    rw [ek, I, List.map_cons, anyL]
    by_cases h0 : 0 ≤ x
    · by_cases h1 : x ≤ 255
      · simp only [xYes, is_int_i, h0, h1, e, Bool.true_and, szl, Nat.reduceLeDiff, Int.reduceLT, Int.reduceLE, Int.reduceNeg, List.length_map, List.length_append, List.nil_append, List.cons_append, at_ok, at_exc, ts_ok, ts_exc, sSeq, sSet, sRet, sRetV, sIf, sNil, sRaise, sAug, sAppOwn, sExt, sAsg, sAsg2, sPar2, sPar3, sBrk, sFor, sSetIx, sTry, calmS, slOf, slA, retOk, fnRes, gIAdd, gICat, xVar, xC, xIf, xTest, xTru, xAnd, xOr, xNot, xAndV, xOrV, xChain, xTup, xLst, xSl, oSome, oNone, op1, op2, opN, opM1, opC, aCons, aNil, lift, g1, g2, dAll, gAdd, gLen_tup, gLen_bor, gLen_new, gLen_bz, wipeS, gIx_tup, gIx_bor, gIx_bz, kS, gEq_int, gNe_int, isi_tt, isi_ts, isi_ti, isi_st, isi_ss, isi_si, isi_it, isi_is, isi_ii, gSub_e, gDiv_e, gMod_e, gLt_e, gLe_e, gGt_e, gGe_e, gNeg, gIs, gIsNot, idR, gInt, gAbs, gTy, ty_int, ty_str, ty_tup, ty_bl, ty_non, intOf, strOf, tupOf, lstOf, seqOf, dctOf, truR, truD, truC, gNm, gNilD, gConsD, gTupD, itemsE, itemsS, itemsV, iE, iV, iRg1, iRevEn, iVs, seqV, seqE, List.getElem?_cons_zero, List.getElem?_cons_succ, List.set_cons_zero, List.set_cons_succ, List.length_cons, List.length_nil, Option.map_some, Option.map_none, if_true, decide_true, decide_false, Bool.false_eq_true, if_false, ite_true, ite_false, reduceIte, Nat.reduceAdd, reduceCtorEq, Bool.not_true, Bool.not_false]
      · simp only [xYes, is_int_i, h0, h1, Bool.true_and, Bool.false_and, szl, Nat.reduceLeDiff, Int.reduceLT, Int.reduceLE, Int.reduceNeg, List.length_map, List.length_append, List.nil_append, List.cons_append, at_ok, at_exc, ts_ok, ts_exc, sSeq, sSet, sRet, sRetV, sIf, sNil, sRaise, sAug, sAppOwn, sExt, sAsg, sAsg2, sPar2, sPar3, sBrk, sFor, sSetIx, sTry, calmS, slOf, slA, retOk, fnRes, gIAdd, gICat, xVar, xC, xIf, xTest, xTru, xAnd, xOr, xNot, xAndV, xOrV, xChain, xTup, xLst, xSl, oSome, oNone, op1, op2, opN, opM1, opC, aCons, aNil, lift, g1, g2, dAll, gAdd, gLen_tup, gLen_bor, gLen_new, gLen_bz, wipeS, gIx_tup, gIx_bor, gIx_bz, kS, gEq_int, gNe_int, isi_tt, isi_ts, isi_ti, isi_st, isi_ss, isi_si, isi_it, isi_is, isi_ii, gSub_e, gDiv_e, gMod_e, gLt_e, gLe_e, gGt_e, gGe_e, gNeg, gIs, gIsNot, idR, gInt, gAbs, gTy, ty_int, ty_str, ty_tup, ty_bl, ty_non, intOf, strOf, tupOf, lstOf, seqOf, dctOf, truR, truD, truC, gNm, gNilD, gConsD, gTupD, itemsE, itemsS, itemsV, iE, iV, iRg1, iRevEn, iVs, seqV, seqE, List.getElem?_cons_zero, List.getElem?_cons_succ, List.set_cons_zero, List.set_cons_succ, List.length_cons, List.length_nil, Option.map_some, Option.map_none, if_true, decide_true, decide_false, Bool.false_eq_true, if_false, ite_true, ite_false, reduceIte, Nat.reduceAdd, reduceCtorEq, Bool.not_true, Bool.not_false]
    · simp only [xYes, is_int_i, h0, Bool.false_and, szl, Nat.reduceLeDiff, Int.reduceLT, Int.reduceLE, Int.reduceNeg, List.length_map, List.length_append, List.nil_append, List.cons_append, at_ok, at_exc, ts_ok, ts_exc, sSeq, sSet, sRet, sRetV, sIf, sNil, sRaise, sAug, sAppOwn, sExt, sAsg, sAsg2, sPar2, sPar3, sBrk, sFor, sSetIx, sTry, calmS, slOf, slA, retOk, fnRes, gIAdd, gICat, xVar, xC, xIf, xTest, xTru, xAnd, xOr, xNot, xAndV, xOrV, xChain, xTup, xLst, xSl, oSome, oNone, op1, op2, opN, opM1, opC, aCons, aNil, lift, g1, g2, dAll, gAdd, gLen_tup, gLen_bor, gLen_new, gLen_bz, wipeS, gIx_tup, gIx_bor, gIx_bz, kS, gEq_int, gNe_int, isi_tt, isi_ts, isi_ti, isi_st, isi_ss, isi_si, isi_it, isi_is, isi_ii, gSub_e, gDiv_e, gMod_e, gLt_e, gLe_e, gGt_e, gGe_e, gNeg, gIs, gIsNot, idR, gInt, gAbs, gTy, ty_int, ty_str, ty_tup, ty_bl, ty_non, intOf, strOf, tupOf, lstOf, seqOf, dctOf, truR, truD, truC, gNm, gNilD, gConsD, gTupD, itemsE, itemsS, itemsV, iE, iV, iRg1, iRevEn, iVs, seqV, seqE, List.getElem?_cons_zero, List.getElem?_cons_succ, List.set_cons_zero, List.set_cons_succ, List.length_cons, List.length_nil, Option.map_some, Option.map_none, if_true, decide_true, decide_false, Bool.false_eq_true, if_false, ite_true, ite_false, reduceIte, Nat.reduceAdd, reduceCtorEq, Bool.not_true, Bool.not_false]
def rcv (m : Nat) (row : List Int) : D :=
  if row.length < 2 then no else if okB row = false then no else if tail2 row ≠ sm (body2 row) then no else match rd m (body2 row) with
    | some (some (d, zs)) => if zs.length = 0 then yes d else no
    | _ => no
theorem ev_received (m n : Nat) (row : List Int) (h : Hs) (hl : row.length < 1000000) (hn : m ≤ n) (hr : okB row = true → tail2 row = sm (body2 row) → ∃ r, rd m (body2 row) = some r) : run (n + 3) .f_received [.d (.tup (I row))] h = some (.ok (.d (rcv m row)) h) := by
  rw [r_f_received]
  unfold b_f_received rcv
  by_cases h2 : row.length < 2
  · rw [if_pos h2]
    simp only [show ((row.length : Nat) : Int) < 2 from by omega, no, Nat.reduceLeDiff, szl, Nat.reduceLeDiff, Int.reduceLT, Int.reduceLE, Int.reduceNeg, List.length_map, List.length_append, List.nil_append, List.cons_append, at_ok, at_exc, ts_ok, ts_exc, sSeq, sSet, sRet, sRetV, sIf, sNil, sRaise, sAug, sAppOwn, sExt, sAsg, sAsg2, sPar2, sPar3, sBrk, sFor, sSetIx, sTry, calmS, slOf, slA, retOk, fnRes, gIAdd, gICat, xVar, xC, xIf, xTest, xTru, xAnd, xOr, xNot, xAndV, xOrV, xChain, xTup, xLst, xSl, oSome, oNone, op1, op2, opN, opM1, opC, aCons, aNil, lift, g1, g2, dAll, gAdd, gLen_tup, gLen_bor, gLen_new, gLen_bz, wipeS, gIx_tup, gIx_bor, gIx_bz, kS, gEq_int, gNe_int, isi_tt, isi_ts, isi_ti, isi_st, isi_ss, isi_si, isi_it, isi_is, isi_ii, gSub_e, gDiv_e, gMod_e, gLt_e, gLe_e, gGt_e, gGe_e, gNeg, gIs, gIsNot, idR, gInt, gAbs, gTy, ty_int, ty_str, ty_tup, ty_bl, ty_non, intOf, strOf, tupOf, lstOf, seqOf, dctOf, truR, truD, truC, gNm, gNilD, gConsD, gTupD, itemsE, itemsS, itemsV, iE, iV, iRg1, iRevEn, iVs, seqV, seqE, List.getElem?_cons_zero, List.getElem?_cons_succ, List.set_cons_zero, List.set_cons_succ, List.length_cons, List.length_nil, Option.map_some, Option.map_none, if_true, decide_true, decide_false, Bool.false_eq_true, if_false, ite_true, ite_false, reduceIte, Nat.reduceAdd, reduceCtorEq, Bool.not_true, Bool.not_false]
  · rw [if_neg h2]
    have e1 := all_bytes (n + 1) (.d (.tup (I row))) .none .none h row
    have hlt : ¬ (((row.length : Nat) : Int) < 2) := by omega
    by_cases hB : okB row = false
    · rw [if_pos hB]
      rw [hB] at e1
      simp only [hlt, xAny, e1, no, szl, Nat.reduceLeDiff, Int.reduceLT, Int.reduceLE, Int.reduceNeg, List.length_map, List.length_append, List.nil_append, List.cons_append, at_ok, at_exc, ts_ok, ts_exc, sSeq, sSet, sRet, sRetV, sIf, sNil, sRaise, sAug, sAppOwn, sExt, sAsg, sAsg2, sPar2, sPar3, sBrk, sFor, sSetIx, sTry, calmS, slOf, slA, retOk, fnRes, gIAdd, gICat, xVar, xC, xIf, xTest, xTru, xAnd, xOr, xNot, xAndV, xOrV, xChain, xTup, xLst, xSl, oSome, oNone, op1, op2, opN, opM1, opC, aCons, aNil, lift, g1, g2, dAll, gAdd, gLen_tup, gLen_bor, gLen_new, gLen_bz, wipeS, gIx_tup, gIx_bor, gIx_bz, kS, gEq_int, gNe_int, isi_tt, isi_ts, isi_ti, isi_st, isi_ss, isi_si, isi_it, isi_is, isi_ii, gSub_e, gDiv_e, gMod_e, gLt_e, gLe_e, gGt_e, gGe_e, gNeg, gIs, gIsNot, idR, gInt, gAbs, gTy, ty_int, ty_str, ty_tup, ty_bl, ty_non, intOf, strOf, tupOf, lstOf, seqOf, dctOf, truR, truD, truC, gNm, gNilD, gConsD, gTupD, itemsE, itemsS, itemsV, iE, iV, iRg1, iRevEn, iVs, seqV, seqE, List.getElem?_cons_zero, List.getElem?_cons_succ, List.set_cons_zero, List.set_cons_succ, List.length_cons, List.length_nil, Option.map_some, Option.map_none, if_true, decide_true, decide_false, Bool.false_eq_true, if_false, ite_true, ite_false, reduceIte, Nat.reduceAdd, reduceCtorEq, Bool.not_true, Bool.not_false]
    · rw [if_neg hB]
      have hB' : okB row = true := by
        cases q : okB row with
        | true => rfl
        | false => exact absurd q hB
      rw [hB'] at e1
      have st1 : ∀ f g : SX, sSeq (sIf (xOr (xTest (op2 gIsNot (opN (g1 gTy) (aCons (xVar 0) aNil)) (xC (.ty "tuple")))) (xOr (xTest (op2 gLt (opN (g1 gLen) (aCons (xVar 0) aNil)) (xC (.int 2)))) (xNot (xTru (xAny false (iE itemsE (xVar 0)) [1] (gNm 1) xYes (xAndV (opC 1 (run (n + 2) .f_is_int) (aCons (xVar 1) aNil)) (xChain gLe gLe (xC (.int 0)) (xVar 1) (xC (.int 255))))))))) f sNil) g [slA (.d (.tup (I row))), .none, .none, .none] h
          = g [.d (.tup (I row)), .none, .none, .none] h := fun f g => by simp only [hlt, xAny, e1, szl, Nat.reduceLeDiff, Int.reduceLT, Int.reduceLE, Int.reduceNeg, List.length_map, List.length_append, List.nil_append, List.cons_append, at_ok, at_exc, ts_ok, ts_exc, sSeq, sSet, sRet, sRetV, sIf, sNil, sRaise, sAug, sAppOwn, sExt, sAsg, sAsg2, sPar2, sPar3, sBrk, sFor, sSetIx, sTry, calmS, slOf, slA, retOk, fnRes, gIAdd, gICat, xVar, xC, xIf, xTest, xTru, xAnd, xOr, xNot, xAndV, xOrV, xChain, xTup, xLst, xSl, oSome, oNone, op1, op2, opN, opM1, opC, aCons, aNil, lift, g1, g2, dAll, gAdd, gLen_tup, gLen_bor, gLen_new, gLen_bz, wipeS, gIx_tup, gIx_bor, gIx_bz, kS, gEq_int, gNe_int, isi_tt, isi_ts, isi_ti, isi_st, isi_ss, isi_si, isi_it, isi_is, isi_ii, gSub_e, gDiv_e, gMod_e, gLt_e, gLe_e, gGt_e, gGe_e, gNeg, gIs, gIsNot, idR, gInt, gAbs, gTy, ty_int, ty_str, ty_tup, ty_bl, ty_non, intOf, strOf, tupOf, lstOf, seqOf, dctOf, truR, truD, truC, gNm, gNilD, gConsD, gTupD, itemsE, itemsS, itemsV, iE, iV, iRg1, iRevEn, iVs, seqV, seqE, List.getElem?_cons_zero, List.getElem?_cons_succ, List.set_cons_zero, List.set_cons_succ, List.length_cons, List.length_nil, Option.map_some, Option.map_none, if_true, decide_true, decide_false, Bool.false_eq_true, if_false, ite_true, ite_false, reduceIte, Nat.reduceAdd, reduceCtorEq, Bool.not_true, Bool.not_false]
      rw [st1]
      have hb2 : 2 ≤ row.length := by omega
      have hbl : (body2 row).length = row.length - 2 := by unfold body2; rw [List.length_take]; omega
      have e2 := ev_sums (n + 1) (.d (.tup (I (body2 row)))) (body2 row) h (.inl rfl) (by omega)
      by_cases hs : tail2 row = sm (body2 row)
      · rw [if_neg (fun z => z hs)]
        have st2 : ∀ f g : SX, sSeq (sIf (xTest (op2 gNe (opN (g1 gList) (aCons (xSl (xVar 0) (oSome (op1 gNeg (xC (.int 2)))) oNone) aNil)) (opC 1 (run (n + 2) .f_sums) (aCons (xSl (xVar 0) oNone (oSome (op1 gNeg (xC (.int 2))))) aNil)))) f sNil) g [.d (.tup (I row)), .none, .none, .none] h
            = g [.d (.tup (I row)), .none, .none, .none] h := fun f g => by simp only [gSl_tup, cut_tail hb2, cut_body hb2, gList, e2, gNe_I, hs, szl, Nat.reduceLeDiff, Int.reduceLT, Int.reduceLE, Int.reduceNeg, List.length_map, List.length_append, List.nil_append, List.cons_append, at_ok, at_exc, ts_ok, ts_exc, sSeq, sSet, sRet, sRetV, sIf, sNil, sRaise, sAug, sAppOwn, sExt, sAsg, sAsg2, sPar2, sPar3, sBrk, sFor, sSetIx, sTry, calmS, slOf, slA, retOk, fnRes, gIAdd, gICat, xVar, xC, xIf, xTest, xTru, xAnd, xOr, xNot, xAndV, xOrV, xChain, xTup, xLst, xSl, oSome, oNone, op1, op2, opN, opM1, opC, aCons, aNil, lift, g1, g2, dAll, gAdd, gLen_tup, gLen_bor, gLen_new, gLen_bz, wipeS, gIx_tup, gIx_bor, gIx_bz, kS, gEq_int, gNe_int, isi_tt, isi_ts, isi_ti, isi_st, isi_ss, isi_si, isi_it, isi_is, isi_ii, gSub_e, gDiv_e, gMod_e, gLt_e, gLe_e, gGt_e, gGe_e, gNeg, gIs, gIsNot, idR, gInt, gAbs, gTy, ty_int, ty_str, ty_tup, ty_bl, ty_non, intOf, strOf, tupOf, lstOf, seqOf, dctOf, truR, truD, truC, gNm, gNilD, gConsD, gTupD, itemsE, itemsS, itemsV, iE, iV, iRg1, iRevEn, iVs, seqV, seqE, List.getElem?_cons_zero, List.getElem?_cons_succ, List.set_cons_zero, List.set_cons_succ, List.length_cons, List.length_nil, Option.map_some, Option.map_none, if_true, decide_true, decide_false, Bool.false_eq_true, if_false, ite_true, ite_false, reduceIte, Nat.reduceAdd, reduceCtorEq, Bool.not_true, Bool.not_false]
        rw [st2]
        obtain ⟨r, er⟩ := hr hB' hs
        have hby : Byte (body2 row) := fun x hx => (okB_byte.mp hB') x (List.mem_of_mem_take hx)
        have e3 := ev_thing_at m n [] (body2 row) h r hn (by show 0 + _ < _; omega) hby er
        have e4 : run (n + 2) .f_thing_at [.d (.tup (I (body2 row))), .d (.int 0)] h = res (body2 row) r h := e3
        rw [er]
        cases r with
        | none =>
          simp only [gSl_tup, cut_body hb2, e4, res, mW, no, szl, Nat.reduceLeDiff, Int.reduceLT, Int.reduceLE, Int.reduceNeg, List.length_map, List.length_append, List.nil_append, List.cons_append, at_ok, at_exc, ts_ok, ts_exc, sSeq, sSet, sRet, sRetV, sIf, sNil, sRaise, sAug, sAppOwn, sExt, sAsg, sAsg2, sPar2, sPar3, sBrk, sFor, sSetIx, sTry, calmS, slOf, slA, retOk, fnRes, gIAdd, gICat, xVar, xC, xIf, xTest, xTru, xAnd, xOr, xNot, xAndV, xOrV, xChain, xTup, xLst, xSl, oSome, oNone, op1, op2, opN, opM1, opC, aCons, aNil, lift, g1, g2, dAll, gAdd, gLen_tup, gLen_bor, gLen_new, gLen_bz, wipeS, gIx_tup, gIx_bor, gIx_bz, kS, gEq_int, gNe_int, isi_tt, isi_ts, isi_ti, isi_st, isi_ss, isi_si, isi_it, isi_is, isi_ii, gSub_e, gDiv_e, gMod_e, gLt_e, gLe_e, gGt_e, gGe_e, gNeg, gIs, gIsNot, idR, gInt, gAbs, gTy, ty_int, ty_str, ty_tup, ty_bl, ty_non, intOf, strOf, tupOf, lstOf, seqOf, dctOf, truR, truD, truC, gNm, gNilD, gConsD, gTupD, itemsE, itemsS, itemsV, iE, iV, iRg1, iRevEn, iVs, seqV, seqE, List.getElem?_cons_zero, List.getElem?_cons_succ, List.set_cons_zero, List.set_cons_succ, List.length_cons, List.length_nil, Option.map_some, Option.map_none, if_true, decide_true, decide_false, Bool.false_eq_true, if_false, ite_true, ite_false, reduceIte, Nat.reduceAdd, reduceCtorEq, Bool.not_true, Bool.not_false]
        | some q =>
          obtain ⟨d, zs⟩ := q
          have hz := (rd_sfx m _ _ _ er).1
          simp only
          by_cases hz0 : zs.length = 0
          · rw [if_pos hz0]
            have hp : ((((body2 row).length - zs.length : Nat) : Int) = ((row.length : Nat) : Int) - 2) := by omega
            simp only [gSl_tup, cut_body hb2, e4, res, hp, yes, szl, Nat.reduceLeDiff, Int.reduceLT, Int.reduceLE, Int.reduceNeg, List.length_map, List.length_append, List.nil_append, List.cons_append, at_ok, at_exc, ts_ok, ts_exc, sSeq, sSet, sRet, sRetV, sIf, sNil, sRaise, sAug, sAppOwn, sExt, sAsg, sAsg2, sPar2, sPar3, sBrk, sFor, sSetIx, sTry, calmS, slOf, slA, retOk, fnRes, gIAdd, gICat, xVar, xC, xIf, xTest, xTru, xAnd, xOr, xNot, xAndV, xOrV, xChain, xTup, xLst, xSl, oSome, oNone, op1, op2, opN, opM1, opC, aCons, aNil, lift, g1, g2, dAll, gAdd, gLen_tup, gLen_bor, gLen_new, gLen_bz, wipeS, gIx_tup, gIx_bor, gIx_bz, kS, gEq_int, gNe_int, isi_tt, isi_ts, isi_ti, isi_st, isi_ss, isi_si, isi_it, isi_is, isi_ii, gSub_e, gDiv_e, gMod_e, gLt_e, gLe_e, gGt_e, gGe_e, gNeg, gIs, gIsNot, idR, gInt, gAbs, gTy, ty_int, ty_str, ty_tup, ty_bl, ty_non, intOf, strOf, tupOf, lstOf, seqOf, dctOf, truR, truD, truC, gNm, gNilD, gConsD, gTupD, itemsE, itemsS, itemsV, iE, iV, iRg1, iRevEn, iVs, seqV, seqE, List.getElem?_cons_zero, List.getElem?_cons_succ, List.set_cons_zero, List.set_cons_succ, List.length_cons, List.length_nil, Option.map_some, Option.map_none, if_true, decide_true, decide_false, Bool.false_eq_true, if_false, ite_true, ite_false, reduceIte, Nat.reduceAdd, reduceCtorEq, Bool.not_true, Bool.not_false]
          · rw [if_neg hz0]
            have hp : ¬ ((((body2 row).length - zs.length : Nat) : Int) = ((row.length : Nat) : Int) - 2) := by omega
            simp only [gSl_tup, cut_body hb2, e4, res, hp, no, szl, Nat.reduceLeDiff, Int.reduceLT, Int.reduceLE, Int.reduceNeg, List.length_map, List.length_append, List.nil_append, List.cons_append, at_ok, at_exc, ts_ok, ts_exc, sSeq, sSet, sRet, sRetV, sIf, sNil, sRaise, sAug, sAppOwn, sExt, sAsg, sAsg2, sPar2, sPar3, sBrk, sFor, sSetIx, sTry, calmS, slOf, slA, retOk, fnRes, gIAdd, gICat, xVar, xC, xIf, xTest, xTru, xAnd, xOr, xNot, xAndV, xOrV, xChain, xTup, xLst, xSl, oSome, oNone, op1, op2, opN, opM1, opC, aCons, aNil, lift, g1, g2, dAll, gAdd, gLen_tup, gLen_bor, gLen_new, gLen_bz, wipeS, gIx_tup, gIx_bor, gIx_bz, kS, gEq_int, gNe_int, isi_tt, isi_ts, isi_ti, isi_st, isi_ss, isi_si, isi_it, isi_is, isi_ii, gSub_e, gDiv_e, gMod_e, gLt_e, gLe_e, gGt_e, gGe_e, gNeg, gIs, gIsNot, idR, gInt, gAbs, gTy, ty_int, ty_str, ty_tup, ty_bl, ty_non, intOf, strOf, tupOf, lstOf, seqOf, dctOf, truR, truD, truC, gNm, gNilD, gConsD, gTupD, itemsE, itemsS, itemsV, iE, iV, iRg1, iRevEn, iVs, seqV, seqE, List.getElem?_cons_zero, List.getElem?_cons_succ, List.set_cons_zero, List.set_cons_succ, List.length_cons, List.length_nil, Option.map_some, Option.map_none, if_true, decide_true, decide_false, Bool.false_eq_true, if_false, ite_true, ite_false, reduceIte, Nat.reduceAdd, reduceCtorEq, Bool.not_true, Bool.not_false]
      · rw [if_pos hs]
        simp only [gSl_tup, cut_tail hb2, cut_body hb2, gList, e2, gNe_I, hs, no, szl, Nat.reduceLeDiff, Int.reduceLT, Int.reduceLE, Int.reduceNeg, List.length_map, List.length_append, List.nil_append, List.cons_append, at_ok, at_exc, ts_ok, ts_exc, sSeq, sSet, sRet, sRetV, sIf, sNil, sRaise, sAug, sAppOwn, sExt, sAsg, sAsg2, sPar2, sPar3, sBrk, sFor, sSetIx, sTry, calmS, slOf, slA, retOk, fnRes, gIAdd, gICat, xVar, xC, xIf, xTest, xTru, xAnd, xOr, xNot, xAndV, xOrV, xChain, xTup, xLst, xSl, oSome, oNone, op1, op2, opN, opM1, opC, aCons, aNil, lift, g1, g2, dAll, gAdd, gLen_tup, gLen_bor, gLen_new, gLen_bz, wipeS, gIx_tup, gIx_bor, gIx_bz, kS, gEq_int, gNe_int, isi_tt, isi_ts, isi_ti, isi_st, isi_ss, isi_si, isi_it, isi_is, isi_ii, gSub_e, gDiv_e, gMod_e, gLt_e, gLe_e, gGt_e, gGe_e, gNeg, gIs, gIsNot, idR, gInt, gAbs, gTy, ty_int, ty_str, ty_tup, ty_bl, ty_non, intOf, strOf, tupOf, lstOf, seqOf, dctOf, truR, truD, truC, gNm, gNilD, gConsD, gTupD, itemsE, itemsS, itemsV, iE, iV, iRg1, iRevEn, iVs, seqV, seqE, List.getElem?_cons_zero, List.getElem?_cons_succ, List.set_cons_zero, List.set_cons_succ, List.length_cons, List.length_nil, Option.map_some, Option.map_none, if_true, decide_true, decide_false, Bool.false_eq_true, if_false, ite_true, ite_false, reduceIte, Nat.reduceAdd, reduceCtorEq, Bool.not_true, Bool.not_false]
theorem ev_law_received (m n : Nat) (row : List Int) (h : Hs) (hl : row.length < m) (hm : m ≤ 1000) (hn : m ≤ n) (hB : Byte row) : run (n + 3) .f_law_received [.d (.tup (I row))] h = some (.ok (.d (rcv m row)) h) := by
  rw [r_f_law_received]
  unfold b_f_law_received rcv
  have hB' : okB row = true := okB_byte.mpr hB
  by_cases h2 : row.length < 2
  · rw [if_pos h2]
    simp only [show ((row.length : Nat) : Int) < 2 from by omega, no, szl, Nat.reduceLeDiff, Int.reduceLT, Int.reduceLE, Int.reduceNeg, List.length_map, List.length_append, List.nil_append, List.cons_append, at_ok, at_exc, ts_ok, ts_exc, sSeq, sSet, sRet, sRetV, sIf, sNil, sRaise, sAug, sAppOwn, sExt, sAsg, sAsg2, sPar2, sPar3, sBrk, sFor, sSetIx, sTry, calmS, slOf, slA, retOk, fnRes, gIAdd, gICat, xVar, xC, xIf, xTest, xTru, xAnd, xOr, xNot, xAndV, xOrV, xChain, xTup, xLst, xSl, oSome, oNone, op1, op2, opN, opM1, opC, aCons, aNil, lift, g1, g2, dAll, gAdd, gLen_tup, gLen_bor, gLen_new, gLen_bz, wipeS, gIx_tup, gIx_bor, gIx_bz, kS, gEq_int, gNe_int, isi_tt, isi_ts, isi_ti, isi_st, isi_ss, isi_si, isi_it, isi_is, isi_ii, gSub_e, gDiv_e, gMod_e, gLt_e, gLe_e, gGt_e, gGe_e, gNeg, gIs, gIsNot, idR, gInt, gAbs, gTy, ty_int, ty_str, ty_tup, ty_bl, ty_non, intOf, strOf, tupOf, lstOf, seqOf, dctOf, truR, truD, truC, gNm, gNilD, gConsD, gTupD, itemsE, itemsS, itemsV, iE, iV, iRg1, iRevEn, iVs, seqV, seqE, List.getElem?_cons_zero, List.getElem?_cons_succ, List.set_cons_zero, List.set_cons_succ, List.length_cons, List.length_nil, Option.map_some, Option.map_none, if_true, decide_true, decide_false, Bool.false_eq_true, if_false, ite_true, ite_false, reduceIte, Nat.reduceAdd, reduceCtorEq, Bool.not_true, Bool.not_false]
  · rw [if_neg h2, if_neg (by rw [hB']; exact fun z => by cases z)]
    have hlt : ¬ (((row.length : Nat) : Int) < 2) := by omega
    have hb2 : 2 ≤ row.length := by omega
    have hbl : (body2 row).length = row.length - 2 := by unfold body2; rw [List.length_take]; omega
    have e2 := ev_law_sums (n + 1) (.d (.tup (I (body2 row)))) (body2 row) h (.inl rfl) (by omega)
    by_cases hs : tail2 row = sm (body2 row)
    · rw [if_neg (fun z => z hs)]
      have st2 : ∀ f g : SX, sSeq (sIf (xOr (xTest (op2 gLt (opN (g1 gLen) (aCons (xVar 0) aNil)) (xC (.int 2)))) (xTest (op2 gNe (opN (g1 gList) (aCons (xSl (xVar 0) (oSome (op1 gNeg (xC (.int 2)))) oNone) aNil)) (opC 1 (run (n + 2) .f_law_sums) (aCons (xSl (xVar 0) oNone (oSome (op1 gNeg (xC (.int 2))))) aNil))))) f sNil) g [slA (.d (.tup (I row))), .none] h
          = g [.d (.tup (I row)), .none] h := fun f g => by simp only [hlt, gSl_tup, cut_tail hb2, cut_body hb2, gList, e2, gNe_I, hs, szl, Nat.reduceLeDiff, Int.reduceLT, Int.reduceLE, Int.reduceNeg, List.length_map, List.length_append, List.nil_append, List.cons_append, at_ok, at_exc, ts_ok, ts_exc, sSeq, sSet, sRet, sRetV, sIf, sNil, sRaise, sAug, sAppOwn, sExt, sAsg, sAsg2, sPar2, sPar3, sBrk, sFor, sSetIx, sTry, calmS, slOf, slA, retOk, fnRes, gIAdd, gICat, xVar, xC, xIf, xTest, xTru, xAnd, xOr, xNot, xAndV, xOrV, xChain, xTup, xLst, xSl, oSome, oNone, op1, op2, opN, opM1, opC, aCons, aNil, lift, g1, g2, dAll, gAdd, gLen_tup, gLen_bor, gLen_new, gLen_bz, wipeS, gIx_tup, gIx_bor, gIx_bz, kS, gEq_int, gNe_int, isi_tt, isi_ts, isi_ti, isi_st, isi_ss, isi_si, isi_it, isi_is, isi_ii, gSub_e, gDiv_e, gMod_e, gLt_e, gLe_e, gGt_e, gGe_e, gNeg, gIs, gIsNot, idR, gInt, gAbs, gTy, ty_int, ty_str, ty_tup, ty_bl, ty_non, intOf, strOf, tupOf, lstOf, seqOf, dctOf, truR, truD, truC, gNm, gNilD, gConsD, gTupD, itemsE, itemsS, itemsV, iE, iV, iRg1, iRevEn, iVs, seqV, seqE, List.getElem?_cons_zero, List.getElem?_cons_succ, List.set_cons_zero, List.set_cons_succ, List.length_cons, List.length_nil, Option.map_some, Option.map_none, if_true, decide_true, decide_false, Bool.false_eq_true, if_false, ite_true, ite_false, reduceIte, Nat.reduceAdd, reduceCtorEq, Bool.not_true, Bool.not_false]
      rw [st2]
      obtain ⟨r, er⟩ := rd_def m (body2 row) (by omega)
      have hby : Byte (body2 row) := fun x hx => hB x (List.mem_of_mem_take hx)
      have e3 := ev_law_at m n [] (body2 row) h r hn (by omega) (by show 0 + _ < _; omega) hby er
      have e4 : run (n + 2) .f_law_at [.d (.tup (I (body2 row))), .d (.int 0)] h = resL (body2 row) r h := e3
      rw [er]
      cases r with
      | none => simp only [gSl_tup, cut_body hb2, e4, resL, no, szl, Nat.reduceLeDiff, Int.reduceLT, Int.reduceLE, Int.reduceNeg, List.length_map, List.length_append, List.nil_append, List.cons_append, at_ok, at_exc, ts_ok, ts_exc, sSeq, sSet, sRet, sRetV, sIf, sNil, sRaise, sAug, sAppOwn, sExt, sAsg, sAsg2, sPar2, sPar3, sBrk, sFor, sSetIx, sTry, calmS, slOf, slA, retOk, fnRes, gIAdd, gICat, xVar, xC, xIf, xTest, xTru, xAnd, xOr, xNot, xAndV, xOrV, xChain, xTup, xLst, xSl, oSome, oNone, op1, op2, opN, opM1, opC, aCons, aNil, lift, g1, g2, dAll, gAdd, gLen_tup, gLen_bor, gLen_new, gLen_bz, wipeS, gIx_tup, gIx_bor, gIx_bz, kS, gEq_int, gNe_int, isi_tt, isi_ts, isi_ti, isi_st, isi_ss, isi_si, isi_it, isi_is, isi_ii, gSub_e, gDiv_e, gMod_e, gLt_e, gLe_e, gGt_e, gGe_e, gNeg, gIs, gIsNot, idR, gInt, gAbs, gTy, ty_int, ty_str, ty_tup, ty_bl, ty_non, intOf, strOf, tupOf, lstOf, seqOf, dctOf, truR, truD, truC, gNm, gNilD, gConsD, gTupD, itemsE, itemsS, itemsV, iE, iV, iRg1, iRevEn, iVs, seqV, seqE, List.getElem?_cons_zero, List.getElem?_cons_succ, List.set_cons_zero, List.set_cons_succ, List.length_cons, List.length_nil, Option.map_some, Option.map_none, if_true, decide_true, decide_false, Bool.false_eq_true, if_false, ite_true, ite_false, reduceIte, Nat.reduceAdd, reduceCtorEq, Bool.not_true, Bool.not_false]
      | some q =>
        obtain ⟨d, zs⟩ := q
        have hz := (rd_sfx m _ _ _ er).1
        simp only
        by_cases hz0 : zs.length = 0
        · rw [if_pos hz0]
          have hp : ((((body2 row).length - zs.length : Nat) : Int) = ((row.length : Nat) : Int) - 2) := by omega
          simp only [gSl_tup, cut_body hb2, e4, resL, ix_pair0, ix_pair1, hp, yes, szl, Nat.reduceLeDiff, Int.reduceLT, Int.reduceLE, Int.reduceNeg, List.length_map, List.length_append, List.nil_append, List.cons_append, at_ok, at_exc, ts_ok, ts_exc, sSeq, sSet, sRet, sRetV, sIf, sNil, sRaise, sAug, sAppOwn, sExt, sAsg, sAsg2, sPar2, sPar3, sBrk, sFor, sSetIx, sTry, calmS, slOf, slA, retOk, fnRes, gIAdd, gICat, xVar, xC, xIf, xTest, xTru, xAnd, xOr, xNot, xAndV, xOrV, xChain, xTup, xLst, xSl, oSome, oNone, op1, op2, opN, opM1, opC, aCons, aNil, lift, g1, g2, dAll, gAdd, gLen_tup, gLen_bor, gLen_new, gLen_bz, wipeS, gIx_tup, gIx_bor, gIx_bz, kS, gEq_int, gNe_int, isi_tt, isi_ts, isi_ti, isi_st, isi_ss, isi_si, isi_it, isi_is, isi_ii, gSub_e, gDiv_e, gMod_e, gLt_e, gLe_e, gGt_e, gGe_e, gNeg, gIs, gIsNot, idR, gInt, gAbs, gTy, ty_int, ty_str, ty_tup, ty_bl, ty_non, intOf, strOf, tupOf, lstOf, seqOf, dctOf, truR, truD, truC, gNm, gNilD, gConsD, gTupD, itemsE, itemsS, itemsV, iE, iV, iRg1, iRevEn, iVs, seqV, seqE, List.getElem?_cons_zero, List.getElem?_cons_succ, List.set_cons_zero, List.set_cons_succ, List.length_cons, List.length_nil, Option.map_some, Option.map_none, if_true, decide_true, decide_false, Bool.false_eq_true, if_false, ite_true, ite_false, reduceIte, Nat.reduceAdd, reduceCtorEq, Bool.not_true, Bool.not_false]
        · rw [if_neg hz0]
          have hp : ¬ ((((body2 row).length - zs.length : Nat) : Int) = ((row.length : Nat) : Int) - 2) := by omega
          simp only [gSl_tup, cut_body hb2, e4, resL, ix_pair0, ix_pair1, hp, no, szl, Nat.reduceLeDiff, Int.reduceLT, Int.reduceLE, Int.reduceNeg, List.length_map, List.length_append, List.nil_append, List.cons_append, at_ok, at_exc, ts_ok, ts_exc, sSeq, sSet, sRet, sRetV, sIf, sNil, sRaise, sAug, sAppOwn, sExt, sAsg, sAsg2, sPar2, sPar3, sBrk, sFor, sSetIx, sTry, calmS, slOf, slA, retOk, fnRes, gIAdd, gICat, xVar, xC, xIf, xTest, xTru, xAnd, xOr, xNot, xAndV, xOrV, xChain, xTup, xLst, xSl, oSome, oNone, op1, op2, opN, opM1, opC, aCons, aNil, lift, g1, g2, dAll, gAdd, gLen_tup, gLen_bor, gLen_new, gLen_bz, wipeS, gIx_tup, gIx_bor, gIx_bz, kS, gEq_int, gNe_int, isi_tt, isi_ts, isi_ti, isi_st, isi_ss, isi_si, isi_it, isi_is, isi_ii, gSub_e, gDiv_e, gMod_e, gLt_e, gLe_e, gGt_e, gGe_e, gNeg, gIs, gIsNot, idR, gInt, gAbs, gTy, ty_int, ty_str, ty_tup, ty_bl, ty_non, intOf, strOf, tupOf, lstOf, seqOf, dctOf, truR, truD, truC, gNm, gNilD, gConsD, gTupD, itemsE, itemsS, itemsV, iE, iV, iRg1, iRevEn, iVs, seqV, seqE, List.getElem?_cons_zero, List.getElem?_cons_succ, List.set_cons_zero, List.set_cons_succ, List.length_cons, List.length_nil, Option.map_some, Option.map_none, if_true, decide_true, decide_false, Bool.false_eq_true, if_false, ite_true, ite_false, reduceIte, Nat.reduceAdd, reduceCtorEq, Bool.not_true, Bool.not_false]
    · rw [if_pos hs]
      simp only [hlt, gSl_tup, cut_tail hb2, cut_body hb2, gList, e2, gNe_I, hs, no, szl, Nat.reduceLeDiff, Int.reduceLT, Int.reduceLE, Int.reduceNeg, List.length_map, List.length_append, List.nil_append, List.cons_append, at_ok, at_exc, ts_ok, ts_exc, sSeq, sSet, sRet, sRetV, sIf, sNil, sRaise, sAug, sAppOwn, sExt, sAsg, sAsg2, sPar2, sPar3, sBrk, sFor, sSetIx, sTry, calmS, slOf, slA, retOk, fnRes, gIAdd, gICat, xVar, xC, xIf, xTest, xTru, xAnd, xOr, xNot, xAndV, xOrV, xChain, xTup, xLst, xSl, oSome, oNone, op1, op2, opN, opM1, opC, aCons, aNil, lift, g1, g2, dAll, gAdd, gLen_tup, gLen_bor, gLen_new, gLen_bz, wipeS, gIx_tup, gIx_bor, gIx_bz, kS, gEq_int, gNe_int, isi_tt, isi_ts, isi_ti, isi_st, isi_ss, isi_si, isi_it, isi_is, isi_ii, gSub_e, gDiv_e, gMod_e, gLt_e, gLe_e, gGt_e, gGe_e, gNeg, gIs, gIsNot, idR, gInt, gAbs, gTy, ty_int, ty_str, ty_tup, ty_bl, ty_non, intOf, strOf, tupOf, lstOf, seqOf, dctOf, truR, truD, truC, gNm, gNilD, gConsD, gTupD, itemsE, itemsS, itemsV, iE, iV, iRg1, iRevEn, iVs, seqV, seqE, List.getElem?_cons_zero, List.getElem?_cons_succ, List.set_cons_zero, List.set_cons_succ, List.length_cons, List.length_nil, Option.map_some, Option.map_none, if_true, decide_true, decide_false, Bool.false_eq_true, if_false, ite_true, ite_false, reduceIte, Nat.reduceAdd, reduceCtorEq, Bool.not_true, Bool.not_false]
theorem received_str (n : Nat) (h : Hs) : run (n + 1) .f_received [.d (.str "")] h = some (.ok (.d no) h) := by
  rw [r_f_received]
  unfold b_f_received
  simp only [show ("str" = "tuple") = False from by decide, no, szl, Nat.reduceLeDiff, Int.reduceLT, Int.reduceLE, Int.reduceNeg, List.length_map, List.length_append, List.nil_append, List.cons_append, at_ok, at_exc, ts_ok, ts_exc, sSeq, sSet, sRet, sRetV, sIf, sNil, sRaise, sAug, sAppOwn, sExt, sAsg, sAsg2, sPar2, sPar3, sBrk, sFor, sSetIx, sTry, calmS, slOf, slA, retOk, fnRes, gIAdd, gICat, xVar, xC, xIf, xTest, xTru, xAnd, xOr, xNot, xAndV, xOrV, xChain, xTup, xLst, xSl, oSome, oNone, op1, op2, opN, opM1, opC, aCons, aNil, lift, g1, g2, dAll, gAdd, gLen_tup, gLen_bor, gLen_new, gLen_bz, wipeS, gIx_tup, gIx_bor, gIx_bz, kS, gEq_int, gNe_int, isi_tt, isi_ts, isi_ti, isi_st, isi_ss, isi_si, isi_it, isi_is, isi_ii, gSub_e, gDiv_e, gMod_e, gLt_e, gLe_e, gGt_e, gGe_e, gNeg, gIs, gIsNot, idR, gInt, gAbs, gTy, ty_int, ty_str, ty_tup, ty_bl, ty_non, intOf, strOf, tupOf, lstOf, seqOf, dctOf, truR, truD, truC, gNm, gNilD, gConsD, gTupD, itemsE, itemsS, itemsV, iE, iV, iRg1, iRevEn, iVs, seqV, seqE, List.getElem?_cons_zero, List.getElem?_cons_succ, List.set_cons_zero, List.set_cons_succ, List.length_cons, List.length_nil, Option.map_some, Option.map_none, if_true, decide_true, decide_false, Bool.false_eq_true, if_false, ite_true, ite_false, reduceIte, Nat.reduceAdd, reduceCtorEq, Bool.not_true, Bool.not_false]
end Sh65
set_option Elab.async false
set_option linter.all false
set_option maxRecDepth 100000
set_option maxHeartbeats 4000000
namespace Sh65
open PySem Sh
/-! ### the sums tell a change -/
theorem tail2_app (due : List Int) (a b : Int) : tail2 (due ++ [a, b]) = [a, b] := by
  unfold tail2
  rw [List.length_append, show due.length + ([a, b] : List Int).length - 2 = due.length from by show due.length + 2 - 2 = _; omega, List.drop_left]
theorem body2_app (due : List Int) (a b : Int) : body2 (due ++ [a, b]) = due := by
  unfold body2
  rw [List.length_append, show due.length + ([a, b] : List Int).length - 2 = due.length from by show due.length + 2 - 2 = _; omega, List.take_left]
def Valid (row : List Int) : Prop := tail2 row = sm (body2 row)
theorem valid_app {due : List Int} {a b : Int} : Valid (due ++ [a, b]) ↔ a = due.sum % 256 ∧ b = wsum due % 256 := by
  unfold Valid
  rw [tail2_app, body2_app, sm]
  constructor
  · intro h
    injection h with h1 h2
    injection h2 with h2 _
    exact ⟨h1, h2⟩
  · rintro ⟨h1, h2⟩
    rw [← h1, ← h2]
theorem ends2 : ∀ C : List Int, 2 ≤ C.length → ∃ C' p q, C = C' ++ [p, q] := by
  intro C h
  have e := List.take_append_drop (C.length - 2) C
  have hl : (C.drop (C.length - 2)).length = 2 := by rw [List.length_drop]; omega
  match hd : C.drop (C.length - 2), hl with
  | [p, q], _ => exact ⟨C.take (C.length - 2), p, q, by rw [← hd]; exact e.symm⟩
theorem ends_inj {A B : List Int} {p q a b : Int} (h : A ++ [p, q] = B ++ [a, b]) : A = B ∧ p = a ∧ q = b := by
  obtain ⟨h1, h2⟩ := List.append_inj' h rfl
  injection h2 with h3 h4
  injection h4 with h4 _
  exact ⟨h1, h3, h4⟩
theorem wsum_app : ∀ A L : List Int, wsum (A ++ L) = wsum A + A.sum * (L.length : Int) + wsum L
  | [], L => by simp [wsum]
  | x :: A, L => by
    rw [List.cons_append, wsum, wsum_app A L, wsum, List.sum_cons, List.length_append, Int.add_mul]
    have e : x * (((A.length + L.length : Nat) : Int) + 1) = x * ((A.length : Int) + 1) + x * (L.length : Int) := by
      rw [← Int.mul_add]
      congr 1
      omega
    rw [e]
    omega
theorem change_bad {A C : List Int} {x k : Int} (hv : Valid (A ++ x :: C)) (h2 : 2 ≤ (A ++ x :: C).length) (hx : 0 ≤ x ∧ x ≤ 255) (hk : 0 ≤ k ∧ k ≤ 255) (hne : k ≠ x) : ¬ Valid (A ++ k :: C) := by
  intro hw
  match C, hv, h2, hw with
  | [], hv, h2, hw =>
    obtain ⟨A', p, q, e⟩ := ends2 (A ++ [x]) h2
    have eA : A = A' ++ [p] ∧ x = q := by
      have : A ++ [x] = (A' ++ [p]) ++ [q] := by rw [e, List.append_assoc]; rfl
      obtain ⟨h1, h3⟩ := List.append_inj' this rfl
      injection h3 with h3 _
      exact ⟨h1, h3⟩
    obtain ⟨rfl, rfl⟩ := eA
    have e1 : A' ++ [p] ++ [x] = A' ++ [p, x] := by rw [List.append_assoc]; rfl
    have e2 : A' ++ [p] ++ [k] = A' ++ [p, k] := by rw [List.append_assoc]; rfl
    rw [e1, valid_app] at hv
    rw [e2, valid_app] at hw
    exact hne (hw.2.trans hv.2.symm)
  | [y], hv, _, hw =>
    have hv := (valid_app (due := A) (a := x) (b := y)).mp hv
    have hw := (valid_app (due := A) (a := k) (b := y)).mp hw
    exact hne (hw.1.trans hv.1.symm)
  | c1 :: c2 :: C, hv, _, hw =>
    obtain ⟨C', p, q, e⟩ := ends2 (c1 :: c2 :: C) (by rw [List.length_cons, List.length_cons]; omega)
    rw [e] at hv hw
    have e1 : A ++ x :: (C' ++ [p, q]) = (A ++ x :: C') ++ [p, q] := by rw [List.append_assoc]; rfl
    have e2 : A ++ k :: (C' ++ [p, q]) = (A ++ k :: C') ++ [p, q] := by rw [List.append_assoc]; rfl
    rw [e1, valid_app] at hv
    rw [e2, valid_app] at hw
    have h3 := hv.1.symm.trans hw.1
    rw [List.sum_append, List.sum_append, List.sum_cons, List.sum_cons] at h3
    omega
theorem swap_bad {A C : List Int} {x y : Int} (hv : Valid (A ++ x :: y :: C)) (hx : 0 ≤ x ∧ x ≤ 255) (hy : 0 ≤ y ∧ y ≤ 255) (hne : x ≠ y) : ¬ Valid (A ++ y :: x :: C) := by
  intro hw
  match C, hv, hw with
  | [], hv, hw =>
    have hv := (valid_app (due := A) (a := x) (b := y)).mp hv
    have hw := (valid_app (due := A) (a := y) (b := x)).mp hw
    exact hne (hv.1.trans hw.1.symm)
  | [z], hv, hw =>
    have e1 : A ++ [x, y, z] = (A ++ [x]) ++ [y, z] := by rw [List.append_assoc]; rfl
    have e2 : A ++ [y, x, z] = (A ++ [y]) ++ [x, z] := by rw [List.append_assoc]; rfl
    rw [e1, valid_app] at hv
    rw [e2, valid_app] at hw
    have h3 := hv.2.symm.trans hw.2
    rw [wsum_app, wsum_app] at h3
    have s : ∀ v : Int, wsum [v] = v := fun v => by simp [wsum]
    rw [s, s] at h3
    simp only [List.length_cons, List.length_nil] at h3
    omega
  | c1 :: c2 :: C, hv, hw =>
    obtain ⟨C', p, q, e⟩ := ends2 (c1 :: c2 :: C) (by rw [List.length_cons, List.length_cons]; omega)
    rw [e] at hv hw
    have e1 : A ++ x :: y :: (C' ++ [p, q]) = (A ++ x :: y :: C') ++ [p, q] := by rw [List.append_assoc]; rfl
    have e2 : A ++ y :: x :: (C' ++ [p, q]) = (A ++ y :: x :: C') ++ [p, q] := by rw [List.append_assoc]; rfl
    rw [e1, valid_app] at hv
    rw [e2, valid_app] at hw
    have h3 := hv.2.symm.trans hw.2
    have w : ∀ u v : Int, wsum (u :: v :: C') = u + (u + v) * ((C'.length : Int) + 1) + wsum C' := fun u v => by
      rw [wsum, wsum, List.length_cons, Int.add_mul]
      have : u * (((C'.length + 1 : Nat) : Int) + 1) = u + u * ((C'.length : Int) + 1) := by
        rw [show (((C'.length + 1 : Nat) : Int) + 1) = 1 + ((C'.length : Int) + 1) from by omega, Int.mul_add, Int.mul_one]
      rw [this]
      omega
    rw [wsum_app, wsum_app, w, w, Int.add_comm y x] at h3
    simp only [List.length_cons] at h3
    omega
theorem rcv_bad {m : Nat} {row : List Int} (h : ¬ Valid row) : rcv m row = no := by
  unfold rcv
  split
  · rfl
  · split
    · rfl
    · rw [if_pos (show tail2 row ≠ sm (body2 row) from h)]
theorem rcv_out {m : Nat} {row : List Int} (h : okB row = false) : rcv m row = no := by
  unfold rcv
  rw [if_pos h]
  split <;> rfl
theorem rcv_good {m : Nat} {due : List Int} {d : D} (hb : Byte due) (h : rd m due = some (some (d, []))) : rcv m (due ++ sm due) = yes d := by
  have hs : Byte (due ++ sm due) := fun x hx => by
    rcases List.mem_append.mp hx with h | h
    · exact hb x h
    · rcases List.mem_cons.mp h with e | e
      · rw [e]; omega
      · rw [List.mem_singleton.mp e]; omega
  have hv : Valid (due ++ sm due) := valid_app.mpr ⟨rfl, rfl⟩
  have e1 : body2 (due ++ sm due) = due := body2_app _ _ _
  unfold rcv
  rw [if_neg (by rw [List.length_append]; show ¬ (due.length + 2 < 2); omega), if_neg (by rw [okB_byte.mpr hs]; exact fun z => by cases z), if_neg (fun z => z hv), e1, h]
  rfl
end Sh65
set_option Elab.async false
set_option linter.all false
set_option maxRecDepth 100000
set_option maxHeartbeats 4000000
namespace Sh65
open PySem Sh
/-! ### cuts, parts of a row -/
theorem split_at {row : List Int} {j : Nat} (h : j < row.length) : ∃ A x C, row = A ++ x :: C ∧ A.length = j :=
  ⟨row.take j, row[j], row.drop (j + 1), by rw [← List.drop_eq_getElem_cons h, List.take_append_drop], by rw [List.length_take]; omega⟩
theorem split_at2 {row : List Int} {j : Nat} (h : j + 1 < row.length) : ∃ A x y C, row = A ++ x :: y :: C ∧ A.length = j := by
  obtain ⟨A, x, C, e, hA⟩ := split_at (show j < row.length by omega)
  match C, e with
  | [], e =>
    rw [e, List.length_append] at h
    have : ([x] : List Int).length = 1 := rfl
    omega
  | y :: C, e => exact ⟨A, x, y, C, e, hA⟩
theorem cut_pre (A L : List Int) : cutD (I (A ++ L)) none (some (A.length : Int)) = I A := by
  unfold cutD
  rw [L2_sx, HT.sIx_none, I_len, List.length_append, Nat.min_eq_left (Nat.le_add_right _ _), List.drop_zero, Nat.sub_zero, I, ← List.map_take, List.take_left]
where L2_sx {n d k : Nat} : HT.sIx n d (some (k : Int)) = min k n := HT.sIx_nat n d k
theorem cut_suf (A L : List Int) (k : Nat) : cutD (I (A ++ L)) (some ((A.length + k : Nat) : Int)) none = I (L.drop k) := by
  have hl : (I (A ++ L)).length = A.length + L.length := by rw [I_len, List.length_append]
  unfold cutD
  rw [HT.sIx_nat, HT.sIx_none, hl, I, ← List.map_drop, ← List.map_take]
  by_cases hk : k ≤ L.length
  · rw [Nat.min_eq_left (by omega), ← List.drop_drop, List.drop_left, List.take_of_length_le (by rw [List.length_drop]; omega)]
  · rw [Nat.min_eq_right (by omega), List.drop_of_length_le (by rw [List.length_append]; exact Nat.le_refl _), List.drop_of_length_le (show L.length ≤ k by omega), List.take_nil]
theorem cut_suf0 (A L : List Int) : cutD (I (A ++ L)) (some (A.length : Int)) none = I L := by
  have := cut_suf A L 0
  rwa [Nat.add_zero, List.drop_zero] at this
theorem cut_suf1 (A C : List Int) (x : Int) : cutD (I (A ++ x :: C)) (some ((A.length : Int) + 1)) none = I C := cut_suf A (x :: C) 1
theorem cut_suf2 (A C : List Int) (x y : Int) : cutD (I (A ++ x :: y :: C)) (some ((A.length : Int) + 2)) none = I C := cut_suf A (x :: y :: C) 2
theorem get_mid2 (A C : List Int) (x y : Int) : (I (A ++ x :: y :: C))[A.length + 1]? = some (D.int y) := by simp [I]
/-! ### data that is told, compared -/
theorem sgc_lt (j : Nat) : sgc j < 1114112 := by
  by_cases h : j < 44
  · have : ∀ j ∈ List.range 44, sgc j < 1114112 := by decide +kernel
    exact this j (List.mem_range.mpr h)
  · unfold sgc
    rw [List.getD_eq_getElem?_getD, List.getElem?_eq_none (by rw [SG_len]; omega)]
    decide
theorem strOk_txt (js : List Nat) : PyData.strOk (txt js) = true := by
  unfold PyData.strOk txt
  rw [← Array.all_toList, List.all_eq_true]
  intro x hx
  obtain ⟨j, _, rfl⟩ := List.mem_map.mp hx
  exact decide_eq_true (sgc_lt j)
theorem Ok.plain : ∀ (m : Nat) (d : D), Ok m d → Plain m d
  | 0, _, h => h.elim
  | m + 1, .int i, h => (plain_int i).mono (Nat.zero_le _)
  | m + 1, .str z, ⟨js, hj, hl, hz⟩ => by
    subst hz
    exact (plain_str (strOk_txt js)).mono (Nat.zero_le _)
  | m + 1, .tup xs, ⟨hl, hx⟩ => plain_tup fun x hm => Ok.plain m x (hx x hm)
  | m + 1, .non, h => h.elim
  | m + 1, .bl _, h => h.elim
  | m + 1, .ty _, h => h.elim
  | m + 1, .ref _, h => h.elim
theorem plain_I (l : List Int) : Plain 1 (.tup (I l)) := plain_tup fun x hx => by
  obtain ⟨i, _, rfl⟩ := List.mem_map.mp hx
  exact plain_int i
theorem plain_no : Plain 1 no := plain_tup fun x hx => by
  rw [List.mem_singleton.mp hx]
  exact plain_str (by decide +kernel)
theorem plain_yes {n : Nat} {d : D} (h : Plain n d) : Plain (n + 1) (yes d) := plain_tup fun x hx => by
  rcases List.mem_cons.mp hx with e | e
  · rw [e]; exact (plain_str (by decide +kernel)).mono (Nat.zero_le _)
  · rw [List.mem_singleton.mp e]; exact h
theorem plain_pair {n : Nat} {i : Int} {d : D} (h : Plain n d) : Plain (n + 1) (.tup [.int i, d]) := plain_tup fun x hx => by
  rcases List.mem_cons.mp hx with e | e
  · rw [e]; exact (plain_int i).mono (Nat.zero_le _)
  · rw [List.mem_singleton.mp e]; exact h
theorem rda_no (m : Nat) : Rda (m + 2) no := ⟨by decide, fun x hx => by
  rw [List.mem_singleton.mp hx]
  show (("no" : Str)).length ≤ 16777216
  decide +kernel⟩
theorem rda_yes {m : Nat} {d : D} (h : Rda (m + 1) d) : Rda (m + 2) (yes d) := ⟨by show 2 ≤ _; decide, fun x hx => by
  rcases List.mem_cons.mp hx with e | e
  · rw [e]
    show (("yes" : Str)).length ≤ 16777216
    decide +kernel
  · rw [List.mem_singleton.mp e]; exact h⟩
theorem rds_data {m : Nat} {p : D → Prop} (hf : ∀ ys d zs, ys.length ≤ 1000 → rd m ys = some (some (d, zs)) → p d) : ∀ (k : Nat) (acc : List D) (ys : List Int) (ds : List D) (zs : List Int), ys.length ≤ 1000 → (∀ x ∈ acc, p x) → rds (rd m) k acc ys = some (some (ds, zs)) → (∀ x ∈ ds, p x) ∧ ds.length = acc.length + k
  | 0, acc, ys, ds, zs, _, ha, h => by
    cases h
    exact ⟨ha, rfl⟩
  | k + 1, acc, ys, ds, zs, hl, ha, h => by
    rw [rds] at h
    split at h
    · cases h
    · cases h
    · rename_i d ws e
      have hd := hf _ _ _ hl e
      have := (rd_sfx m _ _ _ e).1
      obtain ⟨h1, h2⟩ := rds_data hf k (acc ++ [d]) ws ds zs (by omega) (fun x hx => by
        rcases List.mem_append.mp hx with e | e
        · exact ha x e
        · rw [List.mem_singleton.mp e]; exact hd) h
      refine ⟨h1, ?_⟩
      rw [h2, List.length_append]
      show acc.length + 1 + k = _
      omega
theorem rd_data : ∀ (m : Nat) (ys : List Int) (d : D) (zs : List Int), ys.length ≤ 1000 → rd m ys = some (some (d, zs)) → Rda m d ∧ Plain m d
  | 0, _, _, _, _, h => by cases h
  | m + 1, [], _, _, _, h => by cases h
  | m + 1, x :: xs, d, zs, hl, h => by
    rw [List.length_cons] at hl
    rw [rd] at h
    split at h
    · cases hn : num xs with
      | none => rw [hn] at h; cases h
      | some p =>
        obtain ⟨k, ys⟩ := p
        rw [hn] at h
        have l1 := (numA_len xs 1 0 true hn).1
        simp only at h
        split at h
        · cases h
          exact ⟨trivial, (plain_int _).mono (Nat.zero_le _)⟩
        · split at h
          · cases h
          · split at h
            · split at h
              · cases h
              · cases h
                refine ⟨?_, (plain_str (strOk_txt _)).mono (Nat.zero_le _)⟩
                show (txt _).length ≤ _
                rw [txt_len, List.length_map, List.length_take]
                omega
            · split at h
              · cases h
              · cases h
              · rename_i ds ws e
                cases h
                have hs := rds_sfx (rd_sfx m) _ _ _ _ _ e
                obtain ⟨h1, h2⟩ := rds_data (p := fun d => Rda m d ∧ Plain m d) (fun ys d zs hl h => rd_data m ys d zs hl h) _ _ _ _ _ (by omega) (fun x hx => by cases hx) e
                rw [List.length_nil] at h2
                exact ⟨⟨by omega, fun x hx => (h1 x hx).1⟩, plain_tup fun x hx => (h1 x hx).2⟩
    · cases h
theorem rcv_data (m : Nat) (row : List Int) (hl : row.length ≤ 1000) : Rda (m + 2) (rcv m row) ∧ Plain (m + 2) (rcv m row) := by
  have hno : Rda (m + 2) no ∧ Plain (m + 2) no := ⟨rda_no m, plain_no.mono (by omega)⟩
  unfold rcv
  split
  · exact hno
  · split
    · exact hno
    · split
      · exact hno
      · split
        · rename_i d zs e
          split
          · have hb : (body2 row).length ≤ 1000 := by unfold body2; rw [List.length_take]; omega
            obtain ⟨h1, h2⟩ := rd_data m _ _ _ hb e
            cases m with
            | zero => exact h1.elim
            | succ m =>
              refine ⟨?_, (plain_yes h2).mono (by omega)⟩
              refine ⟨by show 2 ≤ _; decide, fun x hx => ?_⟩
              rcases List.mem_cons.mp hx with e | e
              · rw [e]
                show (("yes" : Str)).length ≤ 16777216
                decide +kernel
              · rw [List.mem_singleton.mp e]
                exact Rda.up _ _ h1
          · exact hno
        · exact hno
where
  Rda.up : ∀ (m : Nat) (d : D), Rda m d → Rda (m + 1) d
    | 0, _, h => h.elim
    | m + 1, .int i, h => trivial
    | m + 1, .str z, h => h
    | m + 1, .tup xs, ⟨hl, hx⟩ => ⟨hl, fun x hm => Rda.up m x (hx x hm)⟩
    | m + 1, .non, h => h.elim
    | m + 1, .bl _, h => h.elim
    | m + 1, .ty _, h => h.elim
    | m + 1, .ref _, h => h.elim
end Sh65
set_option Elab.async false
set_option linter.all false
set_option maxRecDepth 100000
set_option maxHeartbeats 4000000
namespace Sh65
open PySem Sh
/-! ### the law -/
theorem L_draw (a b m : Int) (h1 : 0 < m) (h2 : m < 1073741824) : ∃ (v : Nat) (a' b' : Int), run 23 .f_law_draw [.d (.ref 0), .d (.int m)] (B a b) = some (.ok (.d (.int (v : Int))) (B a' b')) ∧ (v : Int) < m := ev_draw 22 a b m h1 h2
theorem L_read {m : Nat} {d : D} (h : Hs) (hd : Rda m d) (hm : m ≤ 22) : run 23 .f_law_read [.d d] h = some (.ok (.d d) h) := ev_read m 22 d h hd hm
theorem told_ok {m : Nat} {fb : EX} {S : Env'} {h : Hs} {v : D} (hf : fb S h = some (.ok (.d v) h)) (hr : Rda m v) (hm : m ≤ 22) : xTold (run 23 .f_law_read) nmF fb S h = some (.ok (.d (.tup [.int 0, v])) h) := by
  unfold xTold
  rw [hf]
  simp only [L_read h hr hm]
theorem told_bad {fb : EX} {S : Env'} {h : Hs} (hf : fb S h = some (.exc "BadRun" h)) : xTold (run 23 .f_law_read) nmF fb S h = some (.ok (.d (.tup [.int 1, .str "run"])) h) := by
  unfold xTold
  rw [hf]
  have e : nmF "BadRun" = some ("run" : Str) := if_pos rfl
  simp only [e]
theorem same_nx {a b : EX} {S : Env'} {h : Hs} {u : D} {n : Nat} (f : SX) (ha : a S h = some (.ok (.d u) h)) (hb : b S h = some (.ok (.d u) h)) (hp : Plain n u) (hn : n ≤ 64) : sIf (xTest (op2 gNe a b)) f sNil S h = some (.nx S h) := by
  simp only [ha, hb, (same_eq hp hn h).2, szl, Nat.reduceLeDiff, Int.reduceLT, Int.reduceLE, Int.reduceNeg, List.length_map, List.length_append, List.nil_append, List.cons_append, at_ok, at_exc, ts_ok, ts_exc, sSeq, sSet, sRet, sRetV, sIf, sNil, sRaise, sAug, sAppOwn, sExt, sAsg, sAsg2, sPar2, sPar3, sBrk, sFor, sSetIx, sTry, calmS, slOf, slA, retOk, fnRes, gIAdd, gICat, xVar, xC, xIf, xTest, xTru, xAnd, xOr, xNot, xAndV, xOrV, xChain, xTup, xLst, xSl, oSome, oNone, op1, op2, opN, opM1, opC, aCons, aNil, lift, g1, g2, dAll, gAdd, gLen_tup, gLen_bor, gLen_new, gLen_bz, wipeS, gIx_tup, gIx_bor, gIx_bz, kS, gEq_int, gNe_int, isi_tt, isi_ts, isi_ti, isi_st, isi_ss, isi_si, isi_it, isi_is, isi_ii, gSub_e, gDiv_e, gMod_e, gLt_e, gLe_e, gGt_e, gGe_e, gNeg, gIs, gIsNot, idR, gInt, gAbs, gTy, ty_int, ty_str, ty_tup, ty_bl, ty_non, intOf, strOf, tupOf, lstOf, seqOf, dctOf, truR, truD, truC, gNm, gNilD, gConsD, gTupD, itemsE, itemsS, itemsV, iE, iV, iRg1, iRevEn, iVs, seqV, seqE, List.getElem?_cons_zero, List.getElem?_cons_succ, List.set_cons_zero, List.set_cons_succ, List.length_cons, List.length_nil, Option.map_some, Option.map_none, if_true, decide_true, decide_false, Bool.false_eq_true, if_false, ite_true, ite_false, reduceIte, Nat.reduceAdd, reduceCtorEq, Bool.not_true, Bool.not_false]
theorem rcv_no (row : List Int) (h : Hs) (hl : row.length < 1000000) (hbad : rcv 10 row = no) (hr : okB row = true → ¬ Valid row) : run 23 .f_received [.d (.tup (I row))] h = some (.ok (.d no) h) := by
  have e : run 23 .f_received [.d (.tup (I row))] h = some (.ok (.d (rcv 10 row)) h) := ev_received 10 20 row h hl (by decide) fun h1 h2 => absurd h2 (hr h1)
  rw [e, hbad]
theorem E_no (S : Env') (h : Hs) : (xTup (aCons (xC (.int 0)) (aCons (xTup (aCons (xC (.str "no")) aNil)) aNil))) S h = some (.ok (.d (.tup [.int 0, no])) h) := by
  simp only [no, szl, Nat.reduceLeDiff, Int.reduceLT, Int.reduceLE, Int.reduceNeg, List.length_map, List.length_append, List.nil_append, List.cons_append, at_ok, at_exc, ts_ok, ts_exc, sSeq, sSet, sRet, sRetV, sIf, sNil, sRaise, sAug, sAppOwn, sExt, sAsg, sAsg2, sPar2, sPar3, sBrk, sFor, sSetIx, sTry, calmS, slOf, slA, retOk, fnRes, gIAdd, gICat, xVar, xC, xIf, xTest, xTru, xAnd, xOr, xNot, xAndV, xOrV, xChain, xTup, xLst, xSl, oSome, oNone, op1, op2, opN, opM1, opC, aCons, aNil, lift, g1, g2, dAll, gAdd, gLen_tup, gLen_bor, gLen_new, gLen_bz, wipeS, gIx_tup, gIx_bor, gIx_bz, kS, gEq_int, gNe_int, isi_tt, isi_ts, isi_ti, isi_st, isi_ss, isi_si, isi_it, isi_is, isi_ii, gSub_e, gDiv_e, gMod_e, gLt_e, gLe_e, gGt_e, gGe_e, gNeg, gIs, gIsNot, idR, gInt, gAbs, gTy, ty_int, ty_str, ty_tup, ty_bl, ty_non, intOf, strOf, tupOf, lstOf, seqOf, dctOf, truR, truD, truC, gNm, gNilD, gConsD, gTupD, itemsE, itemsS, itemsV, iE, iV, iRg1, iRevEn, iVs, seqV, seqE, List.getElem?_cons_zero, List.getElem?_cons_succ, List.set_cons_zero, List.set_cons_succ, List.length_cons, List.length_nil, Option.map_some, Option.map_none, if_true, decide_true, decide_false, Bool.false_eq_true, if_false, ite_true, ite_false, reduceIte, Nat.reduceAdd, reduceCtorEq, Bool.not_true, Bool.not_false]
section
variable {s0 s3 x5 x6 x7 x8 x9 x10 : Sl} {t : D} {row : List Int}
theorem q0 (a b : Int) (hl : 0 < row.length) (hm : row.length < 1000000) : ∃ (j : Nat) (a' b' : Int), (sSet 6 (opC 2 (run 23 .f_law_draw) (aCons (xVar 1) (aCons (opN (g1 gLen) (aCons (xVar 4) aNil)) aNil)))) [s0, .d (.ref 0), .d t, s3, .d (.tup (I row)), x5, x6, x7, x8, x9, x10] (B a b) = some (.nx [s0, .d (.ref 0), .d t, s3, .d (.tup (I row)), x5, .d (.int (j : Nat)), x7, x8, x9, x10] (B a' b')) ∧ j < row.length := by
  obtain ⟨j, a', b', e, hj⟩ := L_draw a b row.length (by omega) (by omega)
  refine ⟨j, a', b', ?_, by omega⟩
  simp only [e, szl, Nat.reduceLeDiff, Int.reduceLT, Int.reduceLE, Int.reduceNeg, List.length_map, List.length_append, List.nil_append, List.cons_append, at_ok, at_exc, ts_ok, ts_exc, sSeq, sSet, sRet, sRetV, sIf, sNil, sRaise, sAug, sAppOwn, sExt, sAsg, sAsg2, sPar2, sPar3, sBrk, sFor, sSetIx, sTry, calmS, slOf, slA, retOk, fnRes, gIAdd, gICat, xVar, xC, xIf, xTest, xTru, xAnd, xOr, xNot, xAndV, xOrV, xChain, xTup, xLst, xSl, oSome, oNone, op1, op2, opN, opM1, opC, aCons, aNil, lift, g1, g2, dAll, gAdd, gLen_tup, gLen_bor, gLen_new, gLen_bz, wipeS, gIx_tup, gIx_bor, gIx_bz, kS, gEq_int, gNe_int, isi_tt, isi_ts, isi_ti, isi_st, isi_ss, isi_si, isi_it, isi_is, isi_ii, gSub_e, gDiv_e, gMod_e, gLt_e, gLe_e, gGt_e, gGe_e, gNeg, gIs, gIsNot, idR, gInt, gAbs, gTy, ty_int, ty_str, ty_tup, ty_bl, ty_non, intOf, strOf, tupOf, lstOf, seqOf, dctOf, truR, truD, truC, gNm, gNilD, gConsD, gTupD, itemsE, itemsS, itemsV, iE, iV, iRg1, iRevEn, iVs, seqV, seqE, List.getElem?_cons_zero, List.getElem?_cons_succ, List.set_cons_zero, List.set_cons_succ, List.length_cons, List.length_nil, Option.map_some, Option.map_none, if_true, decide_true, decide_false, Bool.false_eq_true, if_false, ite_true, ite_false, reduceIte, Nat.reduceAdd, reduceCtorEq, Bool.not_true, Bool.not_false]
theorem q1 (a b : Int) (A C : List Int) (x : Int) (hrow : row = A ++ x :: C) (hx : 0 ≤ x ∧ x ≤ 255) : ∃ (k a' b' : Int), (sSet 7 (op2 gMod (opN (g1 gInt) (aCons (op2 gAdd (op2 gAdd (op2 gIx (xVar 4) (xVar 6)) (xC (.int 1))) (opC 2 (run 23 .f_law_draw) (aCons (xVar 1) (aCons (xC (.int 255)) aNil)))) aNil)) (xC (.int 256)))) [s0, .d (.ref 0), .d t, s3, .d (.tup (I row)), x5, .d (.int (A.length : Nat)), x7, x8, x9, x10] (B a b) = some (.nx [s0, .d (.ref 0), .d t, s3, .d (.tup (I row)), x5, .d (.int (A.length : Nat)), .d (.int k), x8, x9, x10] (B a' b')) ∧ (0 ≤ k ∧ k ≤ 255) ∧ k ≠ x := by
  obtain ⟨v, a', b', e, hv⟩ := L_draw a b 255 (by decide) (by decide)
  subst hrow
  have hg := get_mid A C x
  refine ⟨(x + 1 + (v : Int)) % 256, a', b', ?_, by omega, by omega⟩
  simp only [hg, e, szl, Nat.reduceLeDiff, Int.reduceLT, Int.reduceLE, Int.reduceNeg, List.length_map, List.length_append, List.nil_append, List.cons_append, at_ok, at_exc, ts_ok, ts_exc, sSeq, sSet, sRet, sRetV, sIf, sNil, sRaise, sAug, sAppOwn, sExt, sAsg, sAsg2, sPar2, sPar3, sBrk, sFor, sSetIx, sTry, calmS, slOf, slA, retOk, fnRes, gIAdd, gICat, xVar, xC, xIf, xTest, xTru, xAnd, xOr, xNot, xAndV, xOrV, xChain, xTup, xLst, xSl, oSome, oNone, op1, op2, opN, opM1, opC, aCons, aNil, lift, g1, g2, dAll, gAdd, gLen_tup, gLen_bor, gLen_new, gLen_bz, wipeS, gIx_tup, gIx_bor, gIx_bz, kS, gEq_int, gNe_int, isi_tt, isi_ts, isi_ti, isi_st, isi_ss, isi_si, isi_it, isi_is, isi_ii, gSub_e, gDiv_e, gMod_e, gLt_e, gLe_e, gGt_e, gGe_e, gNeg, gIs, gIsNot, idR, gInt, gAbs, gTy, ty_int, ty_str, ty_tup, ty_bl, ty_non, intOf, strOf, tupOf, lstOf, seqOf, dctOf, truR, truD, truC, gNm, gNilD, gConsD, gTupD, itemsE, itemsS, itemsV, iE, iV, iRg1, iRevEn, iVs, seqV, seqE, List.getElem?_cons_zero, List.getElem?_cons_succ, List.set_cons_zero, List.set_cons_succ, List.length_cons, List.length_nil, Option.map_some, Option.map_none, if_true, decide_true, decide_false, Bool.false_eq_true, if_false, ite_true, ite_false, reduceIte, Nat.reduceAdd, reduceCtorEq, Bool.not_true, Bool.not_false]
theorem q2 (h : Hs) (A C : List Int) (x k : Int) (hrow : row = A ++ x :: C) (hl : row.length < 1000000) : (sSet 8 (op2 gAdd (op2 gAdd (xSl (xVar 4) oNone (oSome (xVar 6))) (xTup (aCons (xVar 7) aNil))) (xSl (xVar 4) (oSome (op2 gAdd (xVar 6) (xC (.int 1)))) oNone))) [s0, .d (.ref 0), .d t, s3, .d (.tup (I row)), x5, .d (.int (A.length : Nat)), .d (.int k), x8, x9, x10] h = some (.nx [s0, .d (.ref 0), .d t, s3, .d (.tup (I row)), x5, .d (.int (A.length : Nat)), .d (.int k), .d (.tup (I (A ++ k :: C))), x9, x10] h) := by
  have hn : row.length = A.length + (C.length + 1) := by rw [hrow, List.length_append, List.length_cons]
  subst hrow
  have ea : I A ++ [D.int k] ++ I C = I (A ++ k :: C) := by simp [I]
  simp only [gSl_tup, cut_pre, cut_suf1, show A.length + 1 ≤ 16777216 from by omega, show A.length + 1 + C.length ≤ 16777216 from by omega, ea, szl, Nat.reduceLeDiff, Int.reduceLT, Int.reduceLE, Int.reduceNeg, List.length_map, List.length_append, List.nil_append, List.cons_append, at_ok, at_exc, ts_ok, ts_exc, sSeq, sSet, sRet, sRetV, sIf, sNil, sRaise, sAug, sAppOwn, sExt, sAsg, sAsg2, sPar2, sPar3, sBrk, sFor, sSetIx, sTry, calmS, slOf, slA, retOk, fnRes, gIAdd, gICat, xVar, xC, xIf, xTest, xTru, xAnd, xOr, xNot, xAndV, xOrV, xChain, xTup, xLst, xSl, oSome, oNone, op1, op2, opN, opM1, opC, aCons, aNil, lift, g1, g2, dAll, gAdd, gLen_tup, gLen_bor, gLen_new, gLen_bz, wipeS, gIx_tup, gIx_bor, gIx_bz, kS, gEq_int, gNe_int, isi_tt, isi_ts, isi_ti, isi_st, isi_ss, isi_si, isi_it, isi_is, isi_ii, gSub_e, gDiv_e, gMod_e, gLt_e, gLe_e, gGt_e, gGe_e, gNeg, gIs, gIsNot, idR, gInt, gAbs, gTy, ty_int, ty_str, ty_tup, ty_bl, ty_non, intOf, strOf, tupOf, lstOf, seqOf, dctOf, truR, truD, truC, gNm, gNilD, gConsD, gTupD, itemsE, itemsS, itemsV, iE, iV, iRg1, iRevEn, iVs, seqV, seqE, List.getElem?_cons_zero, List.getElem?_cons_succ, List.set_cons_zero, List.set_cons_succ, List.length_cons, List.length_nil, Option.map_some, Option.map_none, if_true, decide_true, decide_false, Bool.false_eq_true, if_false, ite_true, ite_false, reduceIte, Nat.reduceAdd, reduceCtorEq, Bool.not_true, Bool.not_false]
theorem q3 (h : Hs) (other : List Int) (hl : other.length < 1000000) (hb : ¬ Valid other) : (sIf (xTest (op2 gNe (xTold (run 23 .f_law_read) nmF (opC 1 (run 23 .f_received) (aCons (xVar 8) aNil))) (xTup (aCons (xC (.int 0)) (aCons (xTup (aCons (xC (.str "no")) aNil)) aNil))))) (sRet (xC (.bl false))) sNil) [s0, .d (.ref 0), .d t, s3, .d (.tup (I row)), x5, x6, x7, .d (.tup (I other)), x9, x10] h = some (.nx [s0, .d (.ref 0), .d t, s3, .d (.tup (I row)), x5, x6, x7, .d (.tup (I other)), x9, x10] h) := by
  have e := rcv_no other h hl (rcv_bad hb) fun _ => hb
  refine same_nx _ (told_ok (v := no) (m := 2) ?_ (rda_no 0) (by decide)) (E_no _ h) (plain_pair plain_no) (by decide)
  simp only [e, szl, Nat.reduceLeDiff, Int.reduceLT, Int.reduceLE, Int.reduceNeg, List.length_map, List.length_append, List.nil_append, List.cons_append, at_ok, at_exc, ts_ok, ts_exc, sSeq, sSet, sRet, sRetV, sIf, sNil, sRaise, sAug, sAppOwn, sExt, sAsg, sAsg2, sPar2, sPar3, sBrk, sFor, sSetIx, sTry, calmS, slOf, slA, retOk, fnRes, gIAdd, gICat, xVar, xC, xIf, xTest, xTru, xAnd, xOr, xNot, xAndV, xOrV, xChain, xTup, xLst, xSl, oSome, oNone, op1, op2, opN, opM1, opC, aCons, aNil, lift, g1, g2, dAll, gAdd, gLen_tup, gLen_bor, gLen_new, gLen_bz, wipeS, gIx_tup, gIx_bor, gIx_bz, kS, gEq_int, gNe_int, isi_tt, isi_ts, isi_ti, isi_st, isi_ss, isi_si, isi_it, isi_is, isi_ii, gSub_e, gDiv_e, gMod_e, gLt_e, gLe_e, gGt_e, gGe_e, gNeg, gIs, gIsNot, idR, gInt, gAbs, gTy, ty_int, ty_str, ty_tup, ty_bl, ty_non, intOf, strOf, tupOf, lstOf, seqOf, dctOf, truR, truD, truC, gNm, gNilD, gConsD, gTupD, itemsE, itemsS, itemsV, iE, iV, iRg1, iRevEn, iVs, seqV, seqE, List.getElem?_cons_zero, List.getElem?_cons_succ, List.set_cons_zero, List.set_cons_succ, List.length_cons, List.length_nil, Option.map_some, Option.map_none, if_true, decide_true, decide_false, Bool.false_eq_true, if_false, ite_true, ite_false, reduceIte, Nat.reduceAdd, reduceCtorEq, Bool.not_true, Bool.not_false]
theorem q4 (a b : Int) (hl : 2 ≤ row.length) (hm : row.length < 1000000) : ∃ (j : Nat) (a' b' : Int), (sSet 6 (opC 2 (run 23 .f_law_draw) (aCons (xVar 1) (aCons (op2 gSub (opN (g1 gLen) (aCons (xVar 4) aNil)) (xC (.int 1))) aNil)))) [s0, .d (.ref 0), .d t, s3, .d (.tup (I row)), x5, x6, x7, x8, x9, x10] (B a b) = some (.nx [s0, .d (.ref 0), .d t, s3, .d (.tup (I row)), x5, .d (.int (j : Nat)), x7, x8, x9, x10] (B a' b')) ∧ j + 1 < row.length := by
  obtain ⟨j, a', b', e, hj⟩ := L_draw a b ((row.length : Int) - 1) (by omega) (by omega)
  refine ⟨j, a', b', ?_, by omega⟩
  simp only [e, szl, Nat.reduceLeDiff, Int.reduceLT, Int.reduceLE, Int.reduceNeg, List.length_map, List.length_append, List.nil_append, List.cons_append, at_ok, at_exc, ts_ok, ts_exc, sSeq, sSet, sRet, sRetV, sIf, sNil, sRaise, sAug, sAppOwn, sExt, sAsg, sAsg2, sPar2, sPar3, sBrk, sFor, sSetIx, sTry, calmS, slOf, slA, retOk, fnRes, gIAdd, gICat, xVar, xC, xIf, xTest, xTru, xAnd, xOr, xNot, xAndV, xOrV, xChain, xTup, xLst, xSl, oSome, oNone, op1, op2, opN, opM1, opC, aCons, aNil, lift, g1, g2, dAll, gAdd, gLen_tup, gLen_bor, gLen_new, gLen_bz, wipeS, gIx_tup, gIx_bor, gIx_bz, kS, gEq_int, gNe_int, isi_tt, isi_ts, isi_ti, isi_st, isi_ss, isi_si, isi_it, isi_is, isi_ii, gSub_e, gDiv_e, gMod_e, gLt_e, gLe_e, gGt_e, gGe_e, gNeg, gIs, gIsNot, idR, gInt, gAbs, gTy, ty_int, ty_str, ty_tup, ty_bl, ty_non, intOf, strOf, tupOf, lstOf, seqOf, dctOf, truR, truD, truC, gNm, gNilD, gConsD, gTupD, itemsE, itemsS, itemsV, iE, iV, iRg1, iRevEn, iVs, seqV, seqE, List.getElem?_cons_zero, List.getElem?_cons_succ, List.set_cons_zero, List.set_cons_succ, List.length_cons, List.length_nil, Option.map_some, Option.map_none, if_true, decide_true, decide_false, Bool.false_eq_true, if_false, ite_true, ite_false, reduceIte, Nat.reduceAdd, reduceCtorEq, Bool.not_true, Bool.not_false]
theorem q5 (h : Hs) (A C : List Int) (x y : Int) (hrow : row = A ++ x :: y :: C) (hl : row.length < 1000000) : (sSet 8 (op2 gAdd (op2 gAdd (xSl (xVar 4) oNone (oSome (xVar 6))) (xTup (aCons (op2 gIx (xVar 4) (op2 gAdd (xVar 6) (xC (.int 1)))) (aCons (op2 gIx (xVar 4) (xVar 6)) aNil)))) (xSl (xVar 4) (oSome (op2 gAdd (xVar 6) (xC (.int 2)))) oNone))) [s0, .d (.ref 0), .d t, s3, .d (.tup (I row)), x5, .d (.int (A.length : Nat)), x7, x8, x9, x10] h = some (.nx [s0, .d (.ref 0), .d t, s3, .d (.tup (I row)), x5, .d (.int (A.length : Nat)), x7, .d (.tup (I (A ++ y :: x :: C))), x9, x10] h) := by
  have hn : row.length = A.length + (C.length + 1 + 1) := by rw [hrow, List.length_append, List.length_cons, List.length_cons]
  subst hrow
  have ea : I A ++ [D.int y, D.int x] ++ I C = I (A ++ y :: x :: C) := by simp [I]
  have g0 := get_mid A (y :: C) x
  have g1' : ∀ h : Hs, gIx (.d (.tup (I (A ++ x :: y :: C)))) (.d (.int ((A.length : Int) + 1))) h = some (.d (.int y)) := fun h => by
    rw [show (A.length : Int) + 1 = ((A.length + 1 : Nat) : Int) from by omega, gIx_tup, get_mid2] <;> rfl
  simp only [gSl_tup, cut_pre, cut_suf2, g0, g1', show A.length + 2 ≤ 16777216 from by omega, show A.length + 2 + C.length ≤ 16777216 from by omega, ea, szl, Nat.reduceLeDiff, Int.reduceLT, Int.reduceLE, Int.reduceNeg, List.length_map, List.length_append, List.nil_append, List.cons_append, at_ok, at_exc, ts_ok, ts_exc, sSeq, sSet, sRet, sRetV, sIf, sNil, sRaise, sAug, sAppOwn, sExt, sAsg, sAsg2, sPar2, sPar3, sBrk, sFor, sSetIx, sTry, calmS, slOf, slA, retOk, fnRes, gIAdd, gICat, xVar, xC, xIf, xTest, xTru, xAnd, xOr, xNot, xAndV, xOrV, xChain, xTup, xLst, xSl, oSome, oNone, op1, op2, opN, opM1, opC, aCons, aNil, lift, g1, g2, dAll, gAdd, gLen_tup, gLen_bor, gLen_new, gLen_bz, wipeS, gIx_tup, gIx_bor, gIx_bz, kS, gEq_int, gNe_int, isi_tt, isi_ts, isi_ti, isi_st, isi_ss, isi_si, isi_it, isi_is, isi_ii, gSub_e, gDiv_e, gMod_e, gLt_e, gLe_e, gGt_e, gGe_e, gNeg, gIs, gIsNot, idR, gInt, gAbs, gTy, ty_int, ty_str, ty_tup, ty_bl, ty_non, intOf, strOf, tupOf, lstOf, seqOf, dctOf, truR, truD, truC, gNm, gNilD, gConsD, gTupD, itemsE, itemsS, itemsV, iE, iV, iRg1, iRevEn, iVs, seqV, seqE, List.getElem?_cons_zero, List.getElem?_cons_succ, List.set_cons_zero, List.set_cons_succ, List.length_cons, List.length_nil, Option.map_some, Option.map_none, if_true, decide_true, decide_false, Bool.false_eq_true, if_false, ite_true, ite_false, reduceIte, Nat.reduceAdd, reduceCtorEq, Bool.not_true, Bool.not_false]
theorem q6 (h : Hs) (A C : List Int) (x y : Int) (hrow : row = A ++ x :: y :: C) (hl : row.length < 1000000) (hb : x ≠ y → ¬ Valid (A ++ y :: x :: C)) : (sIf (xAnd (xTest (op2 gNe (op2 gIx (xVar 4) (xVar 6)) (op2 gIx (xVar 4) (op2 gAdd (xVar 6) (xC (.int 1)))))) (xTest (op2 gNe (xTold (run 23 .f_law_read) nmF (opC 1 (run 23 .f_received) (aCons (xVar 8) aNil))) (xTup (aCons (xC (.int 0)) (aCons (xTup (aCons (xC (.str "no")) aNil)) aNil)))))) (sRet (xC (.bl false))) sNil) [s0, .d (.ref 0), .d t, s3, .d (.tup (I row)), x5, .d (.int (A.length : Nat)), x7, .d (.tup (I (A ++ y :: x :: C))), x9, x10] h = some (.nx [s0, .d (.ref 0), .d t, s3, .d (.tup (I row)), x5, .d (.int (A.length : Nat)), x7, .d (.tup (I (A ++ y :: x :: C))), x9, x10] h) := by
  have hn : row.length = (A ++ y :: x :: C).length := by rw [hrow]; simp
  have hl2 : (A ++ y :: x :: C).length < 1000000 := by omega
  subst hrow
  have g0 := get_mid A (y :: C) x
  have g1' : ∀ h : Hs, gIx (.d (.tup (I (A ++ x :: y :: C)))) (.d (.int ((A.length : Int) + 1))) h = some (.d (.int y)) := fun h => by
    rw [show (A.length : Int) + 1 = ((A.length + 1 : Nat) : Int) from by omega, gIx_tup, get_mid2] <;> rfl
  by_cases hxy : x = y
  · subst hxy
    simp only [g0, g1', szl, Nat.reduceLeDiff, Int.reduceLT, Int.reduceLE, Int.reduceNeg, List.length_map, List.length_append, List.nil_append, List.cons_append, at_ok, at_exc, ts_ok, ts_exc, sSeq, sSet, sRet, sRetV, sIf, sNil, sRaise, sAug, sAppOwn, sExt, sAsg, sAsg2, sPar2, sPar3, sBrk, sFor, sSetIx, sTry, calmS, slOf, slA, retOk, fnRes, gIAdd, gICat, xVar, xC, xIf, xTest, xTru, xAnd, xOr, xNot, xAndV, xOrV, xChain, xTup, xLst, xSl, oSome, oNone, op1, op2, opN, opM1, opC, aCons, aNil, lift, g1, g2, dAll, gAdd, gLen_tup, gLen_bor, gLen_new, gLen_bz, wipeS, gIx_tup, gIx_bor, gIx_bz, kS, gEq_int, gNe_int, isi_tt, isi_ts, isi_ti, isi_st, isi_ss, isi_si, isi_it, isi_is, isi_ii, gSub_e, gDiv_e, gMod_e, gLt_e, gLe_e, gGt_e, gGe_e, gNeg, gIs, gIsNot, idR, gInt, gAbs, gTy, ty_int, ty_str, ty_tup, ty_bl, ty_non, intOf, strOf, tupOf, lstOf, seqOf, dctOf, truR, truD, truC, gNm, gNilD, gConsD, gTupD, itemsE, itemsS, itemsV, iE, iV, iRg1, iRevEn, iVs, seqV, seqE, List.getElem?_cons_zero, List.getElem?_cons_succ, List.set_cons_zero, List.set_cons_succ, List.length_cons, List.length_nil, Option.map_some, Option.map_none, if_true, decide_true, decide_false, Bool.false_eq_true, if_false, ite_true, ite_false, reduceIte, Nat.reduceAdd, reduceCtorEq, Bool.not_true, Bool.not_false]
  · have e := rcv_no (A ++ y :: x :: C) h hl2 (rcv_bad (hb hxy)) fun _ => hb hxy
    have et := told_ok (S := [s0, .d (.ref 0), .d t, s3, .d (.tup (I (A ++ x :: y :: C))), x5, .d (.int (A.length : Nat)), x7, .d (.tup (I (A ++ y :: x :: C))), x9, x10]) (h := h) (fb := opC 1 (run 23 .f_received) (aCons (xVar 8) aNil)) (v := no) (m := 2) (by simp only [e, szl, Nat.reduceLeDiff, Int.reduceLT, Int.reduceLE, Int.reduceNeg, List.length_map, List.length_append, List.nil_append, List.cons_append, at_ok, at_exc, ts_ok, ts_exc, sSeq, sSet, sRet, sRetV, sIf, sNil, sRaise, sAug, sAppOwn, sExt, sAsg, sAsg2, sPar2, sPar3, sBrk, sFor, sSetIx, sTry, calmS, slOf, slA, retOk, fnRes, gIAdd, gICat, xVar, xC, xIf, xTest, xTru, xAnd, xOr, xNot, xAndV, xOrV, xChain, xTup, xLst, xSl, oSome, oNone, op1, op2, opN, opM1, opC, aCons, aNil, lift, g1, g2, dAll, gAdd, gLen_tup, gLen_bor, gLen_new, gLen_bz, wipeS, gIx_tup, gIx_bor, gIx_bz, kS, gEq_int, gNe_int, isi_tt, isi_ts, isi_ti, isi_st, isi_ss, isi_si, isi_it, isi_is, isi_ii, gSub_e, gDiv_e, gMod_e, gLt_e, gLe_e, gGt_e, gGe_e, gNeg, gIs, gIsNot, idR, gInt, gAbs, gTy, ty_int, ty_str, ty_tup, ty_bl, ty_non, intOf, strOf, tupOf, lstOf, seqOf, dctOf, truR, truD, truC, gNm, gNilD, gConsD, gTupD, itemsE, itemsS, itemsV, iE, iV, iRg1, iRevEn, iVs, seqV, seqE, List.getElem?_cons_zero, List.getElem?_cons_succ, List.set_cons_zero, List.set_cons_succ, List.length_cons, List.length_nil, Option.map_some, Option.map_none, if_true, decide_true, decide_false, Bool.false_eq_true, if_false, ite_true, ite_false, reduceIte, Nat.reduceAdd, reduceCtorEq, Bool.not_true, Bool.not_false]) (rda_no 0) (by decide)
    simp only [g0, g1', hxy, et, (same_eq (plain_pair (i := 0) plain_no) (by decide) h).2, show D.tup [D.str "no"] = no from rfl, szl, Nat.reduceLeDiff, Int.reduceLT, Int.reduceLE, Int.reduceNeg, List.length_map, List.length_append, List.nil_append, List.cons_append, at_ok, at_exc, ts_ok, ts_exc, sSeq, sSet, sRet, sRetV, sIf, sNil, sRaise, sAug, sAppOwn, sExt, sAsg, sAsg2, sPar2, sPar3, sBrk, sFor, sSetIx, sTry, calmS, slOf, slA, retOk, fnRes, gIAdd, gICat, xVar, xC, xIf, xTest, xTru, xAnd, xOr, xNot, xAndV, xOrV, xChain, xTup, xLst, xSl, oSome, oNone, op1, op2, opN, opM1, opC, aCons, aNil, lift, g1, g2, dAll, gAdd, gLen_tup, gLen_bor, gLen_new, gLen_bz, wipeS, gIx_tup, gIx_bor, gIx_bz, kS, gEq_int, gNe_int, isi_tt, isi_ts, isi_ti, isi_st, isi_ss, isi_si, isi_it, isi_is, isi_ii, gSub_e, gDiv_e, gMod_e, gLt_e, gLe_e, gGt_e, gGe_e, gNeg, gIs, gIsNot, idR, gInt, gAbs, gTy, ty_int, ty_str, ty_tup, ty_bl, ty_non, intOf, strOf, tupOf, lstOf, seqOf, dctOf, truR, truD, truC, gNm, gNilD, gConsD, gTupD, itemsE, itemsS, itemsV, iE, iV, iRg1, iRevEn, iVs, seqV, seqE, List.getElem?_cons_zero, List.getElem?_cons_succ, List.set_cons_zero, List.set_cons_succ, List.length_cons, List.length_nil, Option.map_some, Option.map_none, if_true, decide_true, decide_false, Bool.false_eq_true, if_false, ite_true, ite_false, reduceIte, Nat.reduceAdd, reduceCtorEq, Bool.not_true, Bool.not_false]
end
end Sh65
set_option Elab.async false
set_option linter.all false
set_option maxRecDepth 100000
set_option maxHeartbeats 4000000
namespace Sh65
open PySem Sh
section
variable {s0 s3 x5 x6 x7 x8 x9 x10 : Sl} {t : D} {row : List Int}
def T8 : List Int := [1, 2, 3, 0, 43, 44, 129, 3]
theorem ix8 (v : Nat) (hv : v < 8) : ∃ z : Int, (∀ h : Hs, gIx (.d (.tup [D.int 1, D.int 2, D.int 3, D.int 0, D.int 43, D.int 44, D.int 129, D.int 3])) (.d (.int (v : Nat))) h = some (.d (.int z))) ∧ 0 ≤ z ∧ z ≤ 255 := by
  have hl : v < T8.length := hv
  have hall : ∀ x ∈ T8, 0 ≤ x ∧ x ≤ 255 := by decide
  refine ⟨T8[v], fun h => ?_, hall _ (List.getElem_mem hl)⟩
  have e : ([D.int 1, D.int 2, D.int 3, D.int 0, D.int 43, D.int 44, D.int 129, D.int 3] : List D) = I T8 := rfl
  rw [e, gIx_tup, I, List.getElem?_map, List.getElem?_eq_getElem hl] <;> rfl
theorem forL_step {g : TGx} {f : SX} {d : D} {ds : List D} {S S1 S2 : Env'} {h h2 : Hs} (hg : g d S = some S1) (hf : f S1 h = some (.nx S2 h2)) : forL g f (d :: ds) S h = forL g f ds S2 h2 := by
  rw [forL]
  simp only [hg, hf]
theorem some_list : ∀ (m p q : Nat) (a b : Int), q + m ≤ 1000 → ∃ (zs : List Int) (a' b' : Int), lcL (gNm 7) xYes (op2 gIx (xTup (aCons (xC (.int 1)) (aCons (xC (.int 2)) (aCons (xC (.int 3)) (aCons (xC (.int 0)) (aCons (xC (.int 43)) (aCons (xC (.int 44)) (aCons (xC (.int 129)) (aCons (xC (.int 3)) aNil))))))))) (opC 2 (run 23 .f_law_draw) (aCons (xVar 1) (aCons (xC (.int 8)) aNil)))) [s0, .d (.ref 0), .d t, s3, .d (.tup (I row)), x5, x6, .none, x8, x9, x10] (rng p m) q (B a b) = some (I zs, B a' b') ∧ zs.length = m ∧ Byte zs
  | 0, p, q, a, b, _ => ⟨[], a, b, rfl, rfl, fun x h => by cases h⟩
  | m + 1, p, q, a, b, hq => by
    obtain ⟨v, a1, b1, e, hv⟩ := L_draw a b 8 (by decide) (by decide)
    obtain ⟨z, ez, hz⟩ := ix8 v (by omega)
    obtain ⟨zs, a', b', e2, hl, hB⟩ := some_list m (p + 1) (q + 1) a1 b1 (by omega)
    refine ⟨z :: zs, a', b', ?_, by rw [List.length_cons, hl], fun x hx => ?_⟩
    · rw [rng_succ, lcL]
      simp only [xYes, e, ez, Nat.reduceLeDiff, show q < 16777216 from by omega, e2, szl, Nat.reduceLeDiff, Int.reduceLT, Int.reduceLE, Int.reduceNeg, List.length_map, List.length_append, List.nil_append, List.cons_append, at_ok, at_exc, ts_ok, ts_exc, sSeq, sSet, sRet, sRetV, sIf, sNil, sRaise, sAug, sAppOwn, sExt, sAsg, sAsg2, sPar2, sPar3, sBrk, sFor, sSetIx, sTry, calmS, slOf, slA, retOk, fnRes, gIAdd, gICat, xVar, xC, xIf, xTest, xTru, xAnd, xOr, xNot, xAndV, xOrV, xChain, xTup, xLst, xSl, oSome, oNone, op1, op2, opN, opM1, opC, aCons, aNil, lift, g1, g2, dAll, gAdd, gLen_tup, gLen_bor, gLen_new, gLen_bz, wipeS, gIx_tup, gIx_bor, gIx_bz, kS, gEq_int, gNe_int, isi_tt, isi_ts, isi_ti, isi_st, isi_ss, isi_si, isi_it, isi_is, isi_ii, gSub_e, gDiv_e, gMod_e, gLt_e, gLe_e, gGt_e, gGe_e, gNeg, gIs, gIsNot, idR, gInt, gAbs, gTy, ty_int, ty_str, ty_tup, ty_bl, ty_non, intOf, strOf, tupOf, lstOf, seqOf, dctOf, truR, truD, truC, gNm, gNilD, gConsD, gTupD, itemsE, itemsS, itemsV, iE, iV, iRg1, iRevEn, iVs, seqV, seqE, List.getElem?_cons_zero, List.getElem?_cons_succ, List.set_cons_zero, List.set_cons_succ, List.length_cons, List.length_nil, Option.map_some, Option.map_none, if_true, decide_true, decide_false, Bool.false_eq_true, if_false, ite_true, ite_false, reduceIte, Nat.reduceAdd, reduceCtorEq, Bool.not_true, Bool.not_false]
      rfl
    · rcases List.mem_cons.mp hx with h | h
      · rw [h]; exact hz
      · exact hB x h
theorem q7 (a b : Int) : ∃ (zs : List Int) (a' b' : Int), (sSet 9 (xLc (iRg1 (opC 2 (run 23 .f_law_draw) (aCons (xVar 1) (aCons (xC (.int 7)) aNil)))) [7] (gNm 7) xYes (op2 gIx (xTup (aCons (xC (.int 1)) (aCons (xC (.int 2)) (aCons (xC (.int 3)) (aCons (xC (.int 0)) (aCons (xC (.int 43)) (aCons (xC (.int 44)) (aCons (xC (.int 129)) (aCons (xC (.int 3)) aNil))))))))) (opC 2 (run 23 .f_law_draw) (aCons (xVar 1) (aCons (xC (.int 8)) aNil)))))) [s0, .d (.ref 0), .d t, s3, .d (.tup (I row)), x5, x6, x7, x8, x9, x10] (B a b) = some (.nx [s0, .d (.ref 0), .d t, s3, .d (.tup (I row)), x5, x6, x7, x8, .own (.lst (I zs)), x10] (B a' b')) ∧ zs.length ≤ 6 ∧ Byte zs := by
  obtain ⟨m, a1, b1, e, hm⟩ := L_draw a b 7 (by decide) (by decide)
  obtain ⟨zs, a', b', e2, hl, hB⟩ := some_list (s0 := s0) (s3 := s3) (x5 := x5) (x6 := x6) (x8 := x8) (x9 := x9) (x10 := x10) (t := t) (row := row) m 0 0 a1 b1 (by omega)
  refine ⟨zs, a', b', ?_, by omega, hB⟩
  simp only [e, inRg_ok (n := (m : Int)) (by omega) (by omega), rangeD_rng, xLc, e2, szl, Nat.reduceLeDiff, Int.reduceLT, Int.reduceLE, Int.reduceNeg, List.length_map, List.length_append, List.nil_append, List.cons_append, at_ok, at_exc, ts_ok, ts_exc, sSeq, sSet, sRet, sRetV, sIf, sNil, sRaise, sAug, sAppOwn, sExt, sAsg, sAsg2, sPar2, sPar3, sBrk, sFor, sSetIx, sTry, calmS, slOf, slA, retOk, fnRes, gIAdd, gICat, xVar, xC, xIf, xTest, xTru, xAnd, xOr, xNot, xAndV, xOrV, xChain, xTup, xLst, xSl, oSome, oNone, op1, op2, opN, opM1, opC, aCons, aNil, lift, g1, g2, dAll, gAdd, gLen_tup, gLen_bor, gLen_new, gLen_bz, wipeS, gIx_tup, gIx_bor, gIx_bz, kS, gEq_int, gNe_int, isi_tt, isi_ts, isi_ti, isi_st, isi_ss, isi_si, isi_it, isi_is, isi_ii, gSub_e, gDiv_e, gMod_e, gLt_e, gLe_e, gGt_e, gGe_e, gNeg, gIs, gIsNot, idR, gInt, gAbs, gTy, ty_int, ty_str, ty_tup, ty_bl, ty_non, intOf, strOf, tupOf, lstOf, seqOf, dctOf, truR, truD, truC, gNm, gNilD, gConsD, gTupD, itemsE, itemsS, itemsV, iE, iV, iRg1, iRevEn, iVs, seqV, seqE, List.getElem?_cons_zero, List.getElem?_cons_succ, List.set_cons_zero, List.set_cons_succ, List.length_cons, List.length_nil, Option.map_some, Option.map_none, if_true, decide_true, decide_false, Bool.false_eq_true, if_false, ite_true, ite_false, reduceIte, Nat.reduceAdd, reduceCtorEq, Bool.not_true, Bool.not_false]
theorem q8 (h : Hs) (zs : List Int) (hl : zs.length ≤ 6) : (sSet 8 (opN (g1 gTuple) (aCons (op2 gAdd (xVar 9) (opC 1 (run 23 .f_law_sums) (aCons (xVar 9) aNil))) aNil))) [s0, .d (.ref 0), .d t, s3, .d (.tup (I row)), x5, x6, x7, x8, .own (.lst (I zs)), x10] h = some (.nx [s0, .d (.ref 0), .d t, s3, .d (.tup (I row)), x5, x6, x7, .d (.tup (I (zs ++ sm zs))), .own (.lst (I zs)), x10] h) := by
  have e : run 23 .f_law_sums [.bor (.lst (I zs))] h = some (.ok (.new (.lst (I (sm zs)))) h) := ev_law_sums 22 (.bor (.lst (I zs))) zs h (.inr rfl) (by omega)
  have e3 : (sm zs).length = 2 := rfl
  simp only [e, e3, show zs.length + 2 ≤ 16777216 from by omega, I_app, gTuple, szl, Nat.reduceLeDiff, Int.reduceLT, Int.reduceLE, Int.reduceNeg, List.length_map, List.length_append, List.nil_append, List.cons_append, at_ok, at_exc, ts_ok, ts_exc, sSeq, sSet, sRet, sRetV, sIf, sNil, sRaise, sAug, sAppOwn, sExt, sAsg, sAsg2, sPar2, sPar3, sBrk, sFor, sSetIx, sTry, calmS, slOf, slA, retOk, fnRes, gIAdd, gICat, xVar, xC, xIf, xTest, xTru, xAnd, xOr, xNot, xAndV, xOrV, xChain, xTup, xLst, xSl, oSome, oNone, op1, op2, opN, opM1, opC, aCons, aNil, lift, g1, g2, dAll, gAdd, gLen_tup, gLen_bor, gLen_new, gLen_bz, wipeS, gIx_tup, gIx_bor, gIx_bz, kS, gEq_int, gNe_int, isi_tt, isi_ts, isi_ti, isi_st, isi_ss, isi_si, isi_it, isi_is, isi_ii, gSub_e, gDiv_e, gMod_e, gLt_e, gLe_e, gGt_e, gGe_e, gNeg, gIs, gIsNot, idR, gInt, gAbs, gTy, ty_int, ty_str, ty_tup, ty_bl, ty_non, intOf, strOf, tupOf, lstOf, seqOf, dctOf, truR, truD, truC, gNm, gNilD, gConsD, gTupD, itemsE, itemsS, itemsV, iE, iV, iRg1, iRevEn, iVs, seqV, seqE, List.getElem?_cons_zero, List.getElem?_cons_succ, List.set_cons_zero, List.set_cons_succ, List.length_cons, List.length_nil, Option.map_some, Option.map_none, if_true, decide_true, decide_false, Bool.false_eq_true, if_false, ite_true, ite_false, reduceIte, Nat.reduceAdd, reduceCtorEq, Bool.not_true, Bool.not_false]
theorem q9 (h : Hs) (other : List Int) (hl : other.length < 10) (hB : Byte other) : (sIf (xTest (op2 gNe (xTold (run 23 .f_law_read) nmF (opC 1 (run 23 .f_received) (aCons (xVar 8) aNil))) (xTup (aCons (xC (.int 0)) (aCons (opC 1 (run 23 .f_law_received) (aCons (xVar 8) aNil)) aNil))))) (sRet (xC (.bl false))) sNil) [s0, .d (.ref 0), .d t, s3, .d (.tup (I row)), x5, x6, x7, .d (.tup (I other)), x9, x10] h = some (.nx [s0, .d (.ref 0), .d t, s3, .d (.tup (I row)), x5, x6, x7, .d (.tup (I other)), x9, x10] h) := by
  have e1 : run 23 .f_received [.d (.tup (I other))] h = some (.ok (.d (rcv 10 other)) h) := ev_received 10 20 other h (by omega) (by decide) fun _ _ => rd_def 10 _ (by unfold body2; rw [List.length_take]; omega)
  have e2 : run 23 .f_law_received [.d (.tup (I other))] h = some (.ok (.d (rcv 10 other)) h) := ev_law_received 10 20 other h hl (by decide) (by decide) hB
  obtain ⟨d1, d2⟩ := rcv_data 10 other (by omega)
  refine same_nx _ (told_ok (v := rcv 10 other) (m := 12) ?_ d1 (by decide)) ?_ (plain_pair (i := 0) d2) (by decide)
  · simp only [e1, szl, Nat.reduceLeDiff, Int.reduceLT, Int.reduceLE, Int.reduceNeg, List.length_map, List.length_append, List.nil_append, List.cons_append, at_ok, at_exc, ts_ok, ts_exc, sSeq, sSet, sRet, sRetV, sIf, sNil, sRaise, sAug, sAppOwn, sExt, sAsg, sAsg2, sPar2, sPar3, sBrk, sFor, sSetIx, sTry, calmS, slOf, slA, retOk, fnRes, gIAdd, gICat, xVar, xC, xIf, xTest, xTru, xAnd, xOr, xNot, xAndV, xOrV, xChain, xTup, xLst, xSl, oSome, oNone, op1, op2, opN, opM1, opC, aCons, aNil, lift, g1, g2, dAll, gAdd, gLen_tup, gLen_bor, gLen_new, gLen_bz, wipeS, gIx_tup, gIx_bor, gIx_bz, kS, gEq_int, gNe_int, isi_tt, isi_ts, isi_ti, isi_st, isi_ss, isi_si, isi_it, isi_is, isi_ii, gSub_e, gDiv_e, gMod_e, gLt_e, gLe_e, gGt_e, gGe_e, gNeg, gIs, gIsNot, idR, gInt, gAbs, gTy, ty_int, ty_str, ty_tup, ty_bl, ty_non, intOf, strOf, tupOf, lstOf, seqOf, dctOf, truR, truD, truC, gNm, gNilD, gConsD, gTupD, itemsE, itemsS, itemsV, iE, iV, iRg1, iRevEn, iVs, seqV, seqE, List.getElem?_cons_zero, List.getElem?_cons_succ, List.set_cons_zero, List.set_cons_succ, List.length_cons, List.length_nil, Option.map_some, Option.map_none, if_true, decide_true, decide_false, Bool.false_eq_true, if_false, ite_true, ite_false, reduceIte, Nat.reduceAdd, reduceCtorEq, Bool.not_true, Bool.not_false]
  · simp only [e2, szl, Nat.reduceLeDiff, Int.reduceLT, Int.reduceLE, Int.reduceNeg, List.length_map, List.length_append, List.nil_append, List.cons_append, at_ok, at_exc, ts_ok, ts_exc, sSeq, sSet, sRet, sRetV, sIf, sNil, sRaise, sAug, sAppOwn, sExt, sAsg, sAsg2, sPar2, sPar3, sBrk, sFor, sSetIx, sTry, calmS, slOf, slA, retOk, fnRes, gIAdd, gICat, xVar, xC, xIf, xTest, xTru, xAnd, xOr, xNot, xAndV, xOrV, xChain, xTup, xLst, xSl, oSome, oNone, op1, op2, opN, opM1, opC, aCons, aNil, lift, g1, g2, dAll, gAdd, gLen_tup, gLen_bor, gLen_new, gLen_bz, wipeS, gIx_tup, gIx_bor, gIx_bz, kS, gEq_int, gNe_int, isi_tt, isi_ts, isi_ti, isi_st, isi_ss, isi_si, isi_it, isi_is, isi_ii, gSub_e, gDiv_e, gMod_e, gLt_e, gLe_e, gGt_e, gGe_e, gNeg, gIs, gIsNot, idR, gInt, gAbs, gTy, ty_int, ty_str, ty_tup, ty_bl, ty_non, intOf, strOf, tupOf, lstOf, seqOf, dctOf, truR, truD, truC, gNm, gNilD, gConsD, gTupD, itemsE, itemsS, itemsV, iE, iV, iRg1, iRevEn, iVs, seqV, seqE, List.getElem?_cons_zero, List.getElem?_cons_succ, List.set_cons_zero, List.set_cons_succ, List.length_cons, List.length_nil, Option.map_some, Option.map_none, if_true, decide_true, decide_false, Bool.false_eq_true, if_false, ite_true, ite_false, reduceIte, Nat.reduceAdd, reduceCtorEq, Bool.not_true, Bool.not_false]
theorem body_ok (a b : Int) (hv : Valid row) (hB : Byte row) (h2 : 2 ≤ row.length) (hl : row.length < 1000000) : ∃ (x6' x7' x8' x9' : Sl) (a' b' : Int), (sSeq (sSet 6 (opC 2 (run 23 .f_law_draw) (aCons (xVar 1) (aCons (opN (g1 gLen) (aCons (xVar 4) aNil)) aNil)))) (sSeq (sSet 7 (op2 gMod (opN (g1 gInt) (aCons (op2 gAdd (op2 gAdd (op2 gIx (xVar 4) (xVar 6)) (xC (.int 1))) (opC 2 (run 23 .f_law_draw) (aCons (xVar 1) (aCons (xC (.int 255)) aNil)))) aNil)) (xC (.int 256)))) (sSeq (sSet 8 (op2 gAdd (op2 gAdd (xSl (xVar 4) oNone (oSome (xVar 6))) (xTup (aCons (xVar 7) aNil))) (xSl (xVar 4) (oSome (op2 gAdd (xVar 6) (xC (.int 1)))) oNone))) (sSeq (sIf (xTest (op2 gNe (xTold (run 23 .f_law_read) nmF (opC 1 (run 23 .f_received) (aCons (xVar 8) aNil))) (xTup (aCons (xC (.int 0)) (aCons (xTup (aCons (xC (.str "no")) aNil)) aNil))))) (sRet (xC (.bl false))) sNil) (sSeq (sSet 6 (opC 2 (run 23 .f_law_draw) (aCons (xVar 1) (aCons (op2 gSub (opN (g1 gLen) (aCons (xVar 4) aNil)) (xC (.int 1))) aNil)))) (sSeq (sSet 8 (op2 gAdd (op2 gAdd (xSl (xVar 4) oNone (oSome (xVar 6))) (xTup (aCons (op2 gIx (xVar 4) (op2 gAdd (xVar 6) (xC (.int 1)))) (aCons (op2 gIx (xVar 4) (xVar 6)) aNil)))) (xSl (xVar 4) (oSome (op2 gAdd (xVar 6) (xC (.int 2)))) oNone))) (sSeq (sIf (xAnd (xTest (op2 gNe (op2 gIx (xVar 4) (xVar 6)) (op2 gIx (xVar 4) (op2 gAdd (xVar 6) (xC (.int 1)))))) (xTest (op2 gNe (xTold (run 23 .f_law_read) nmF (opC 1 (run 23 .f_received) (aCons (xVar 8) aNil))) (xTup (aCons (xC (.int 0)) (aCons (xTup (aCons (xC (.str "no")) aNil)) aNil)))))) (sRet (xC (.bl false))) sNil) (sSeq (sSet 9 (xLc (iRg1 (opC 2 (run 23 .f_law_draw) (aCons (xVar 1) (aCons (xC (.int 7)) aNil)))) [7] (gNm 7) xYes (op2 gIx (xTup (aCons (xC (.int 1)) (aCons (xC (.int 2)) (aCons (xC (.int 3)) (aCons (xC (.int 0)) (aCons (xC (.int 43)) (aCons (xC (.int 44)) (aCons (xC (.int 129)) (aCons (xC (.int 3)) aNil))))))))) (opC 2 (run 23 .f_law_draw) (aCons (xVar 1) (aCons (xC (.int 8)) aNil)))))) (sSeq (sSet 8 (opN (g1 gTuple) (aCons (op2 gAdd (xVar 9) (opC 1 (run 23 .f_law_sums) (aCons (xVar 9) aNil))) aNil))) (sIf (xTest (op2 gNe (xTold (run 23 .f_law_read) nmF (opC 1 (run 23 .f_received) (aCons (xVar 8) aNil))) (xTup (aCons (xC (.int 0)) (aCons (opC 1 (run 23 .f_law_received) (aCons (xVar 8) aNil)) aNil))))) (sRet (xC (.bl false))) sNil)))))))))) [s0, .d (.ref 0), .d t, s3, .d (.tup (I row)), x5, x6, x7, x8, x9, x10] (B a b) = some (.nx [s0, .d (.ref 0), .d t, s3, .d (.tup (I row)), x5, x6', x7', x8', x9', x10] (B a' b')) := by
  obtain ⟨j, a1, b1, e0, hj⟩ := q0 (s0 := s0) (s3 := s3) (x5 := x5) (x6 := x6) (x7 := x7) (x8 := x8) (x9 := x9) (x10 := x10) (t := t) (row := row) a b (by omega) hl
  obtain ⟨A, x, C, hrow, rfl⟩ := split_at hj
  have hx : 0 ≤ x ∧ x ≤ 255 := hB x (by rw [hrow]; exact List.mem_append_right _ List.mem_cons_self)
  obtain ⟨k, a2, b2, e1, hk, hne⟩ := q1 (s0 := s0) (s3 := s3) (x5 := x5) (x7 := x7) (x8 := x8) (x9 := x9) (x10 := x10) (t := t) (row := row) a1 b1 A C x hrow hx
  have e2 := q2 (s0 := s0) (s3 := s3) (x5 := x5) (x8 := x8) (x9 := x9) (x10 := x10) (t := t) (row := row) (B a2 b2) A C x k hrow hl
  have hvx : Valid (A ++ x :: C) := by rw [← hrow]; exact hv
  have hlen : (A ++ k :: C).length = row.length := by rw [hrow]; simp
  have e3 := q3 (s0 := s0) (s3 := s3) (x5 := x5) (x6 := .d (.int (A.length : Nat))) (x7 := .d (.int k)) (x9 := x9) (x10 := x10) (t := t) (row := row) (B a2 b2) (A ++ k :: C) (by omega) (change_bad hvx (by rw [← hrow]; exact h2) hx hk hne)
  obtain ⟨j2, a3, b3, e4, hj2⟩ := q4 (s0 := s0) (s3 := s3) (x5 := x5) (x6 := .d (.int (A.length : Nat))) (x7 := .d (.int k)) (x8 := .d (.tup (I (A ++ k :: C)))) (x9 := x9) (x10 := x10) (t := t) (row := row) a2 b2 h2 hl
  obtain ⟨A2, x2, y2, C2, hrow2, rfl⟩ := split_at2 hj2
  have hx2 : 0 ≤ x2 ∧ x2 ≤ 255 := hB x2 (by rw [hrow2]; exact List.mem_append_right _ List.mem_cons_self)
  have hy2 : 0 ≤ y2 ∧ y2 ≤ 255 := hB y2 (by rw [hrow2]; exact List.mem_append_right _ (List.mem_cons_of_mem _ List.mem_cons_self))
  have e5 := q5 (s0 := s0) (s3 := s3) (x5 := x5) (x7 := .d (.int k)) (x8 := .d (.tup (I (A ++ k :: C)))) (x9 := x9) (x10 := x10) (t := t) (row := row) (B a3 b3) A2 C2 x2 y2 hrow2 hl
  have e6 := q6 (s0 := s0) (s3 := s3) (x5 := x5) (x7 := .d (.int k)) (x9 := x9) (x10 := x10) (t := t) (row := row) (B a3 b3) A2 C2 x2 y2 hrow2 hl (fun hne2 => swap_bad (by rw [← hrow2]; exact hv) hx2 hy2 hne2)
  obtain ⟨zs, a4, b4, e7, hzl, hzB⟩ := q7 (s0 := s0) (s3 := s3) (x5 := x5) (x6 := .d (.int (A2.length : Nat))) (x7 := .d (.int k)) (x8 := .d (.tup (I (A2 ++ y2 :: x2 :: C2)))) (x9 := x9) (x10 := x10) (t := t) (row := row) a3 b3
  have e8 := q8 (s0 := s0) (s3 := s3) (x5 := x5) (x6 := .d (.int (A2.length : Nat))) (x7 := .d (.int k)) (x8 := .d (.tup (I (A2 ++ y2 :: x2 :: C2)))) (x10 := x10) (t := t) (row := row) (B a4 b4) zs hzl
  have hoB : Byte (zs ++ sm zs) := fun x hx => by
    rcases List.mem_append.mp hx with h | h
    · exact hzB x h
    · rcases List.mem_cons.mp h with e | e
      · rw [e]; omega
      · rw [List.mem_singleton.mp e]; omega
  have e9 := q9 (s0 := s0) (s3 := s3) (x5 := x5) (x6 := .d (.int (A2.length : Nat))) (x7 := .d (.int k)) (x9 := .own (.lst (I zs))) (x10 := x10) (t := t) (row := row) (B a4 b4) (zs ++ sm zs) (by rw [List.length_append]; show zs.length + 2 < 10; omega) hoB
  exact ⟨_, _, _, _, _, _, (sSeq_nx e0).trans ((sSeq_nx e1).trans ((sSeq_nx e2).trans ((sSeq_nx e3).trans ((sSeq_nx e4).trans ((sSeq_nx e5).trans ((sSeq_nx e6).trans ((sSeq_nx e7).trans ((sSeq_nx e8).trans e9))))))))⟩
end
theorem loop_ok {s0 s3 x10 : Sl} {t : D} {row : List Int} (hv : Valid row) (hB : Byte row) (h2 : 2 ≤ row.length) (hl : row.length < 1000000) : ∀ (m p : Nat) (a b : Int) (x5 x6 x7 x8 x9 : Sl), ∃ (x5' x6' x7' x8' x9' : Sl) (a' b' : Int), forL (gNm 5) (sSeq (sSet 6 (opC 2 (run 23 .f_law_draw) (aCons (xVar 1) (aCons (opN (g1 gLen) (aCons (xVar 4) aNil)) aNil)))) (sSeq (sSet 7 (op2 gMod (opN (g1 gInt) (aCons (op2 gAdd (op2 gAdd (op2 gIx (xVar 4) (xVar 6)) (xC (.int 1))) (opC 2 (run 23 .f_law_draw) (aCons (xVar 1) (aCons (xC (.int 255)) aNil)))) aNil)) (xC (.int 256)))) (sSeq (sSet 8 (op2 gAdd (op2 gAdd (xSl (xVar 4) oNone (oSome (xVar 6))) (xTup (aCons (xVar 7) aNil))) (xSl (xVar 4) (oSome (op2 gAdd (xVar 6) (xC (.int 1)))) oNone))) (sSeq (sIf (xTest (op2 gNe (xTold (run 23 .f_law_read) nmF (opC 1 (run 23 .f_received) (aCons (xVar 8) aNil))) (xTup (aCons (xC (.int 0)) (aCons (xTup (aCons (xC (.str "no")) aNil)) aNil))))) (sRet (xC (.bl false))) sNil) (sSeq (sSet 6 (opC 2 (run 23 .f_law_draw) (aCons (xVar 1) (aCons (op2 gSub (opN (g1 gLen) (aCons (xVar 4) aNil)) (xC (.int 1))) aNil)))) (sSeq (sSet 8 (op2 gAdd (op2 gAdd (xSl (xVar 4) oNone (oSome (xVar 6))) (xTup (aCons (op2 gIx (xVar 4) (op2 gAdd (xVar 6) (xC (.int 1)))) (aCons (op2 gIx (xVar 4) (xVar 6)) aNil)))) (xSl (xVar 4) (oSome (op2 gAdd (xVar 6) (xC (.int 2)))) oNone))) (sSeq (sIf (xAnd (xTest (op2 gNe (op2 gIx (xVar 4) (xVar 6)) (op2 gIx (xVar 4) (op2 gAdd (xVar 6) (xC (.int 1)))))) (xTest (op2 gNe (xTold (run 23 .f_law_read) nmF (opC 1 (run 23 .f_received) (aCons (xVar 8) aNil))) (xTup (aCons (xC (.int 0)) (aCons (xTup (aCons (xC (.str "no")) aNil)) aNil)))))) (sRet (xC (.bl false))) sNil) (sSeq (sSet 9 (xLc (iRg1 (opC 2 (run 23 .f_law_draw) (aCons (xVar 1) (aCons (xC (.int 7)) aNil)))) [7] (gNm 7) xYes (op2 gIx (xTup (aCons (xC (.int 1)) (aCons (xC (.int 2)) (aCons (xC (.int 3)) (aCons (xC (.int 0)) (aCons (xC (.int 43)) (aCons (xC (.int 44)) (aCons (xC (.int 129)) (aCons (xC (.int 3)) aNil))))))))) (opC 2 (run 23 .f_law_draw) (aCons (xVar 1) (aCons (xC (.int 8)) aNil)))))) (sSeq (sSet 8 (opN (g1 gTuple) (aCons (op2 gAdd (xVar 9) (opC 1 (run 23 .f_law_sums) (aCons (xVar 9) aNil))) aNil))) (sIf (xTest (op2 gNe (xTold (run 23 .f_law_read) nmF (opC 1 (run 23 .f_received) (aCons (xVar 8) aNil))) (xTup (aCons (xC (.int 0)) (aCons (opC 1 (run 23 .f_law_received) (aCons (xVar 8) aNil)) aNil))))) (sRet (xC (.bl false))) sNil)))))))))) (rng p m) [s0, .d (.ref 0), .d t, s3, .d (.tup (I row)), x5, x6, x7, x8, x9, x10] (B a b) = some (.nx [s0, .d (.ref 0), .d t, s3, .d (.tup (I row)), x5', x6', x7', x8', x9', x10] (B a' b'))
  | 0, p, a, b, x5, x6, x7, x8, x9 => ⟨x5, x6, x7, x8, x9, a, b, rfl⟩
  | m + 1, p, a, b, x5, x6, x7, x8, x9 => by
    obtain ⟨x6', x7', x8', x9', a1, b1, e⟩ := body_ok (s0 := s0) (s3 := s3) (x5 := .d (.int (p : Nat))) (x6 := x6) (x7 := x7) (x8 := x8) (x9 := x9) (x10 := x10) (t := t) (row := row) a b hv hB h2 hl
    obtain ⟨y5, y6, y7, y8, y9, a2, b2, e2⟩ := loop_ok (s0 := s0) (s3 := s3) (x10 := x10) (t := t) hv hB h2 hl m (p + 1) a1 b1 (.d (.int (p : Nat))) x6' x7' x8' x9'
    refine ⟨y5, y6, y7, y8, y9, a2, b2, ?_⟩
    rw [rng_succ]
    exact (forL_step rfl e).trans e2
end Sh65
set_option Elab.async false
set_option linter.all false
set_option maxRecDepth 100000
set_option maxHeartbeats 4000000
namespace Sh65
open PySem Sh
theorem for6 (g : TGx) (f : SX) (S : Env') (h : Hs) : sFor (iRg1 (xC (.int 6))) g f S h = forL g f (rng 0 6) S h := by
  have e : rangeD 0 6 = rng 0 6 := rangeD_rng 6
  unfold sFor iRg1
  simp only [inRg_ok (n := 6) (by decide) (by decide), e, szl, Nat.reduceLeDiff, Int.reduceLT, Int.reduceLE, Int.reduceNeg, List.length_map, List.length_append, List.nil_append, List.cons_append, at_ok, at_exc, ts_ok, ts_exc, sSeq, sSet, sRet, sRetV, sIf, sNil, sRaise, sAug, sAppOwn, sExt, sAsg, sAsg2, sPar2, sPar3, sBrk, sFor, sSetIx, sTry, calmS, slOf, slA, retOk, fnRes, gIAdd, gICat, xVar, xC, xIf, xTest, xTru, xAnd, xOr, xNot, xAndV, xOrV, xChain, xTup, xLst, xSl, oSome, oNone, op1, op2, opN, opM1, opC, aCons, aNil, lift, g1, g2, dAll, gAdd, gLen_tup, gLen_bor, gLen_new, gLen_bz, wipeS, gIx_tup, gIx_bor, gIx_bz, kS, gEq_int, gNe_int, isi_tt, isi_ts, isi_ti, isi_st, isi_ss, isi_si, isi_it, isi_is, isi_ii, gSub_e, gDiv_e, gMod_e, gLt_e, gLe_e, gGt_e, gGe_e, gNeg, gIs, gIsNot, idR, gInt, gAbs, gTy, ty_int, ty_str, ty_tup, ty_bl, ty_non, intOf, strOf, tupOf, lstOf, seqOf, dctOf, truR, truD, truC, gNm, gNilD, gConsD, gTupD, itemsE, itemsS, itemsV, iE, iV, iRg1, iRevEn, iVs, seqV, seqE, List.getElem?_cons_zero, List.getElem?_cons_succ, List.set_cons_zero, List.set_cons_succ, List.length_cons, List.length_nil, Option.map_some, Option.map_none, if_true, decide_true, decide_false, Bool.false_eq_true, if_false, ite_true, ite_false, reduceIte, Nat.reduceAdd, reduceCtorEq, Bool.not_true, Bool.not_false]
theorem okB_mid (A C : List Int) (w : Int) (hw : w = 256 ∨ w = -2) : okB (A ++ w :: C) = false := by
  unfold okB
  rw [List.all_append, List.all_cons]
  have : (decide (0 ≤ w) && decide (w ≤ 255)) = false := by rcases hw with rfl | rfl <;> decide
  rw [this, Bool.false_and, Bool.and_false]
theorem rcv_o (row : List Int) (h : Hs) (hl : row.length < 1000000) (hb : okB row = false) : run 23 .f_received [.d (.tup (I row))] h = some (.ok (.d no) h) :=
  rcv_no row h hl (rcv_out hb) fun z => by rw [hb] at z; cases z
section
variable {s0 s3 x5 x6 x7 x8 x9 x10 : Sl} {t : D} {row : List Int}
theorem f8 (a b : Int) (hl : 0 < row.length) (hm : row.length < 1000000) : ∃ (j : Nat) (w a' b' : Int), (sPar2 6 10 (aCons (opC 2 (run 23 .f_law_draw) (aCons (xVar 1) (aCons (opN (g1 gLen) (aCons (xVar 4) aNil)) aNil))) (aCons (op2 gIx (xTup (aCons (xC (.int 256)) (aCons (op1 gNeg (xC (.int 2))) aNil))) (opC 2 (run 23 .f_law_draw) (aCons (xVar 1) (aCons (xC (.int 2)) aNil)))) aNil))) [s0, .d (.ref 0), .d t, s3, .d (.tup (I row)), x5, x6, x7, x8, x9, x10] (B a b) = some (.nx [s0, .d (.ref 0), .d t, s3, .d (.tup (I row)), x5, .d (.int (j : Nat)), x7, x8, x9, .d (.int w)] (B a' b')) ∧ j < row.length ∧ (w = 256 ∨ w = -2) := by
  obtain ⟨j, a1, b1, e, hj⟩ := L_draw a b row.length (by omega) (by omega)
  obtain ⟨v, a2, b2, e2, hv⟩ := L_draw a1 b1 2 (by decide) (by decide)
  by_cases h0 : v = 0
  · subst h0
    have ei : ∀ h : Hs, gIx (.d (.tup [.int 256, .int (-2)])) (.d (.int ((0 : Nat) : Int))) h = some (.d (.int 256)) := fun h => gIx_tup _ 0 h
    refine ⟨j, 256, a2, b2, ?_, by omega, .inl rfl⟩
    simp only [e, e2, ei, szl, Nat.reduceLeDiff, Int.reduceLT, Int.reduceLE, Int.reduceNeg, List.length_map, List.length_append, List.nil_append, List.cons_append, at_ok, at_exc, ts_ok, ts_exc, sSeq, sSet, sRet, sRetV, sIf, sNil, sRaise, sAug, sAppOwn, sExt, sAsg, sAsg2, sPar2, sPar3, sBrk, sFor, sSetIx, sTry, calmS, slOf, slA, retOk, fnRes, gIAdd, gICat, xVar, xC, xIf, xTest, xTru, xAnd, xOr, xNot, xAndV, xOrV, xChain, xTup, xLst, xSl, oSome, oNone, op1, op2, opN, opM1, opC, aCons, aNil, lift, g1, g2, dAll, gAdd, gLen_tup, gLen_bor, gLen_new, gLen_bz, wipeS, gIx_tup, gIx_bor, gIx_bz, kS, gEq_int, gNe_int, isi_tt, isi_ts, isi_ti, isi_st, isi_ss, isi_si, isi_it, isi_is, isi_ii, gSub_e, gDiv_e, gMod_e, gLt_e, gLe_e, gGt_e, gGe_e, gNeg, gIs, gIsNot, idR, gInt, gAbs, gTy, ty_int, ty_str, ty_tup, ty_bl, ty_non, intOf, strOf, tupOf, lstOf, seqOf, dctOf, truR, truD, truC, gNm, gNilD, gConsD, gTupD, itemsE, itemsS, itemsV, iE, iV, iRg1, iRevEn, iVs, seqV, seqE, List.getElem?_cons_zero, List.getElem?_cons_succ, List.set_cons_zero, List.set_cons_succ, List.length_cons, List.length_nil, Option.map_some, Option.map_none, if_true, decide_true, decide_false, Bool.false_eq_true, if_false, ite_true, ite_false, reduceIte, Nat.reduceAdd, reduceCtorEq, Bool.not_true, Bool.not_false]
  · have h1 : v = 1 := by omega
    subst h1
    have ei : ∀ h : Hs, gIx (.d (.tup [.int 256, .int (-2)])) (.d (.int ((1 : Nat) : Int))) h = some (.d (.int (-2))) := fun h => gIx_tup _ 1 h
    refine ⟨j, -2, a2, b2, ?_, by omega, .inr rfl⟩
    simp only [e, e2, ei, szl, Nat.reduceLeDiff, Int.reduceLT, Int.reduceLE, Int.reduceNeg, List.length_map, List.length_append, List.nil_append, List.cons_append, at_ok, at_exc, ts_ok, ts_exc, sSeq, sSet, sRet, sRetV, sIf, sNil, sRaise, sAug, sAppOwn, sExt, sAsg, sAsg2, sPar2, sPar3, sBrk, sFor, sSetIx, sTry, calmS, slOf, slA, retOk, fnRes, gIAdd, gICat, xVar, xC, xIf, xTest, xTru, xAnd, xOr, xNot, xAndV, xOrV, xChain, xTup, xLst, xSl, oSome, oNone, op1, op2, opN, opM1, opC, aCons, aNil, lift, g1, g2, dAll, gAdd, gLen_tup, gLen_bor, gLen_new, gLen_bz, wipeS, gIx_tup, gIx_bor, gIx_bz, kS, gEq_int, gNe_int, isi_tt, isi_ts, isi_ti, isi_st, isi_ss, isi_si, isi_it, isi_is, isi_ii, gSub_e, gDiv_e, gMod_e, gLt_e, gLe_e, gGt_e, gGe_e, gNeg, gIs, gIsNot, idR, gInt, gAbs, gTy, ty_int, ty_str, ty_tup, ty_bl, ty_non, intOf, strOf, tupOf, lstOf, seqOf, dctOf, truR, truD, truC, gNm, gNilD, gConsD, gTupD, itemsE, itemsS, itemsV, iE, iV, iRg1, iRevEn, iVs, seqV, seqE, List.getElem?_cons_zero, List.getElem?_cons_succ, List.set_cons_zero, List.set_cons_succ, List.length_cons, List.length_nil, Option.map_some, Option.map_none, if_true, decide_true, decide_false, Bool.false_eq_true, if_false, ite_true, ite_false, reduceIte, Nat.reduceAdd, reduceCtorEq, Bool.not_true, Bool.not_false]
theorem f9 (h : Hs) (A C : List Int) (x w : Int) (hrow : row = A ++ x :: C) (hm : row.length < 900000) (hw : w = 256 ∨ w = -2) : ∃ x8', (sFor (iE itemsS (xTup (aCons (op2 gAdd (xTup (aCons (xC (.int 256)) aNil)) (xVar 4)) (aCons (op2 gAdd (op2 gAdd (xSl (xVar 4) oNone (oSome (xVar 6))) (xTup (aCons (xVar 10) aNil))) (xSl (xVar 4) (oSome (xVar 6)) oNone)) (aCons (op2 gAdd (op2 gAdd (xSl (xVar 4) oNone (oSome (xVar 6))) (xTup (aCons (xVar 10) aNil))) (xSl (xVar 4) (oSome (op2 gAdd (xVar 6) (xC (.int 1)))) oNone)) aNil))))) (gNm 8) (sIf (xTest (op2 gNe (xTold (run 23 .f_law_read) nmF (opC 1 (run 23 .f_received) (aCons (xVar 8) aNil))) (xTup (aCons (xC (.int 0)) (aCons (xTup (aCons (xC (.str "no")) aNil)) aNil))))) (sRet (xC (.bl false))) sNil)) [s0, .d (.ref 0), .d t, s3, .d (.tup (I row)), x5, .d (.int (A.length : Nat)), x7, x8, x9, .d (.int w)] h = some (.nx [s0, .d (.ref 0), .d t, s3, .d (.tup (I row)), x5, .d (.int (A.length : Nat)), x7, x8', x9, .d (.int w)] h) := by
  have hn : row.length = A.length + (C.length + 1) := by rw [hrow, List.length_append, List.length_cons]
  have l1 : (256 :: row).length < 1000000 := by rw [List.length_cons]; omega
  have l2 : (A ++ w :: x :: C).length < 1000000 := by rw [List.length_append, List.length_cons, List.length_cons]; omega
  have l3 : (A ++ w :: C).length < 1000000 := by rw [List.length_append, List.length_cons]; omega
  have r1 := rcv_o (256 :: row) h l1 (okB_mid [] row 256 (.inl rfl))
  have r2 := rcv_o (A ++ w :: x :: C) h l2 (okB_mid A (x :: C) w hw)
  have r3 := rcv_o (A ++ w :: C) h l3 (okB_mid A C w hw)
  have chk : ∀ (other : List Int) (f : SX), run 23 .f_received [.d (.tup (I other))] h = some (.ok (.d no) h) → sIf (xTest (op2 gNe (xTold (run 23 .f_law_read) nmF (opC 1 (run 23 .f_received) (aCons (xVar 8) aNil))) (xTup (aCons (xC (.int 0)) (aCons (xTup (aCons (xC (.str "no")) aNil)) aNil))))) f sNil [s0, .d (.ref 0), .d t, s3, .d (.tup (I row)), x5, .d (.int (A.length : Nat)), x7, .d (.tup (I other)), x9, .d (.int w)] h = some (.nx [s0, .d (.ref 0), .d t, s3, .d (.tup (I row)), x5, .d (.int (A.length : Nat)), x7, .d (.tup (I other)), x9, .d (.int w)] h) := fun other f e =>
    same_nx f (told_ok (v := no) (m := 2) (by simp only [e, szl, Nat.reduceLeDiff, Int.reduceLT, Int.reduceLE, Int.reduceNeg, List.length_map, List.length_append, List.nil_append, List.cons_append, at_ok, at_exc, ts_ok, ts_exc, sSeq, sSet, sRet, sRetV, sIf, sNil, sRaise, sAug, sAppOwn, sExt, sAsg, sAsg2, sPar2, sPar3, sBrk, sFor, sSetIx, sTry, calmS, slOf, slA, retOk, fnRes, gIAdd, gICat, xVar, xC, xIf, xTest, xTru, xAnd, xOr, xNot, xAndV, xOrV, xChain, xTup, xLst, xSl, oSome, oNone, op1, op2, opN, opM1, opC, aCons, aNil, lift, g1, g2, dAll, gAdd, gLen_tup, gLen_bor, gLen_new, gLen_bz, wipeS, gIx_tup, gIx_bor, gIx_bz, kS, gEq_int, gNe_int, isi_tt, isi_ts, isi_ti, isi_st, isi_ss, isi_si, isi_it, isi_is, isi_ii, gSub_e, gDiv_e, gMod_e, gLt_e, gLe_e, gGt_e, gGe_e, gNeg, gIs, gIsNot, idR, gInt, gAbs, gTy, ty_int, ty_str, ty_tup, ty_bl, ty_non, intOf, strOf, tupOf, lstOf, seqOf, dctOf, truR, truD, truC, gNm, gNilD, gConsD, gTupD, itemsE, itemsS, itemsV, iE, iV, iRg1, iRevEn, iVs, seqV, seqE, List.getElem?_cons_zero, List.getElem?_cons_succ, List.set_cons_zero, List.set_cons_succ, List.length_cons, List.length_nil, Option.map_some, Option.map_none, if_true, decide_true, decide_false, Bool.false_eq_true, if_false, ite_true, ite_false, reduceIte, Nat.reduceAdd, reduceCtorEq, Bool.not_true, Bool.not_false]) (rda_no 0) (by decide)) (E_no _ h) (plain_pair (i := 0) plain_no) (by decide)
  refine ⟨.d (.tup (I (A ++ w :: C))), ?_⟩
  have ei : (iE itemsS (xTup (aCons (op2 gAdd (xTup (aCons (xC (.int 256)) aNil)) (xVar 4)) (aCons (op2 gAdd (op2 gAdd (xSl (xVar 4) oNone (oSome (xVar 6))) (xTup (aCons (xVar 10) aNil))) (xSl (xVar 4) (oSome (xVar 6)) oNone)) (aCons (op2 gAdd (op2 gAdd (xSl (xVar 4) oNone (oSome (xVar 6))) (xTup (aCons (xVar 10) aNil))) (xSl (xVar 4) (oSome (op2 gAdd (xVar 6) (xC (.int 1)))) oNone)) aNil))))) [s0, .d (.ref 0), .d t, s3, .d (.tup (I row)), x5, .d (.int (A.length : Nat)), x7, x8, x9, .d (.int w)] h = some (.ok [.tup (I (256 :: row)), .tup (I (A ++ w :: x :: C)), .tup (I (A ++ w :: C))] h) := by
    subst hrow
    have ea2 : I A ++ [D.int w] ++ I (x :: C) = I (A ++ w :: x :: C) := by simp [I]
    have ea3 : I A ++ [D.int w] ++ I C = I (A ++ w :: C) := by simp [I]
    simp only [gSl_tup, cut_pre, cut_suf0, cut_suf1, ea2, ea3, show 1 + (A.length + (C.length + 1)) ≤ 16777216 from by omega, show A.length + 1 ≤ 16777216 from by omega, show A.length + 1 + (C.length + 1) ≤ 16777216 from by omega, show A.length + 1 + C.length ≤ 16777216 from by omega, szl, Nat.reduceLeDiff, Int.reduceLT, Int.reduceLE, Int.reduceNeg, List.length_map, List.length_append, List.nil_append, List.cons_append, at_ok, at_exc, ts_ok, ts_exc, sSeq, sSet, sRet, sRetV, sIf, sNil, sRaise, sAug, sAppOwn, sExt, sAsg, sAsg2, sPar2, sPar3, sBrk, sFor, sSetIx, sTry, calmS, slOf, slA, retOk, fnRes, gIAdd, gICat, xVar, xC, xIf, xTest, xTru, xAnd, xOr, xNot, xAndV, xOrV, xChain, xTup, xLst, xSl, oSome, oNone, op1, op2, opN, opM1, opC, aCons, aNil, lift, g1, g2, dAll, gAdd, gLen_tup, gLen_bor, gLen_new, gLen_bz, wipeS, gIx_tup, gIx_bor, gIx_bz, kS, gEq_int, gNe_int, isi_tt, isi_ts, isi_ti, isi_st, isi_ss, isi_si, isi_it, isi_is, isi_ii, gSub_e, gDiv_e, gMod_e, gLt_e, gLe_e, gGt_e, gGe_e, gNeg, gIs, gIsNot, idR, gInt, gAbs, gTy, ty_int, ty_str, ty_tup, ty_bl, ty_non, intOf, strOf, tupOf, lstOf, seqOf, dctOf, truR, truD, truC, gNm, gNilD, gConsD, gTupD, itemsE, itemsS, itemsV, iE, iV, iRg1, iRevEn, iVs, seqV, seqE, List.getElem?_cons_zero, List.getElem?_cons_succ, List.set_cons_zero, List.set_cons_succ, List.length_cons, List.length_nil, Option.map_some, Option.map_none, if_true, decide_true, decide_false, Bool.false_eq_true, if_false, ite_true, ite_false, reduceIte, Nat.reduceAdd, reduceCtorEq, Bool.not_true, Bool.not_false]
    rfl
  unfold sFor
  rw [ei]
  rw [ts_ok]
  refine (forL_step rfl (chk _ _ r1)).trans ?_
  refine (forL_step (S1 := [s0, .d (.ref 0), .d t, s3, .d (.tup (I row)), x5, .d (.int (A.length : Nat)), x7, .d (.tup (I (A ++ w :: x :: C))), x9, .d (.int w)]) rfl (chk _ _ r2)).trans ?_
  exact forL_step (S1 := [s0, .d (.ref 0), .d t, s3, .d (.tup (I row)), x5, .d (.int (A.length : Nat)), x7, .d (.tup (I (A ++ w :: C))), x9, .d (.int w)]) rfl (chk _ _ r3)
end
theorem law_goodT : ∀ ns : List Int, ∀ c, c = Cn.lst (ns.map D.int) ∨ c = Cn.fz (ns.map D.int) → ∃ h', run 24 .f_law [R.bor c] [] = some (.ok (.d (.bl true)) h') := by
  intro ns c hc
  obtain ⟨a, b, e0⟩ := ev_stream 21 ns c hc []
  obtain ⟨t, a1, b1, e1, ho⟩ := ev_thing 5 22 a b (by decide)
  have e0 : run 23 .f_law_stream [.bor c, .d (.int 0)] [] = some (.ok (.new (.lst [.int a, .int b])) []) := e0
  have e1 : run 23 .f_law_thing [.d (.ref 0), .d (.int 5)] (B a b) = some (.ok (.d t) (B a1 b1)) := e1
  have ho : Ok 6 t := ho
  have e2 : run 23 .f_law_write [.d t] (B a1 b1) = some (.ok (.new (.lst (I (enc 6 t)))) (B a1 b1)) := ev_law_write 6 13 t (B a1 b1) ho (by decide) (by decide)
  have hl0 := enc_len 6 t ho
  have hB0 := enc_byte 6 t ho
  have hd := rd_enc 6 t [] ho
  rw [List.append_nil] at hd
  have eS : run 23 .f_sent [.d t] (B a1 b1) = some (.ok (.d (.tup (I (enc 6 t ++ sm (enc 6 t))))) (B a1 b1)) := ev_sent 6 20 t (B a1 b1) ho (by decide) (by decide)
  obtain ⟨due, hdue⟩ : ∃ due, due = enc 6 t := ⟨_, rfl⟩
  rw [← hdue] at e2 hl0 hB0 hd eS
  have hl0 : due.length ≤ 819200 := hl0
  obtain ⟨row, hrow⟩ : ∃ row, row = due ++ sm due := ⟨_, rfl⟩
  rw [← hrow] at eS
  have hrl : row.length = due.length + 2 := by rw [hrow, List.length_append]; rfl
  have hv : Valid row := by rw [hrow]; exact valid_app.mpr ⟨rfl, rfl⟩
  have hB : Byte row := fun x hx => by
    rw [hrow] at hx
    rcases List.mem_append.mp hx with h | h
    · exact hB0 x h
    · rcases List.mem_cons.mp h with e | e
      · rw [e]; omega
      · rw [List.mem_singleton.mp e]; omega
  have e3 : run 23 .f_law_sums [.bor (.lst (I due))] (B a1 b1) = some (.ok (.new (.lst (I (sm due)))) (B a1 b1)) := ev_law_sums 22 (.bor (.lst (I due))) due (B a1 b1) (.inr rfl) (by omega)
  have hs2 : (sm due).length = 2 := rfl
  have g0 : (sSet 1 (xShare (opC 2 (run 23 .f_law_stream) (aCons (xVar 0) (aCons (xC (.int 0)) aNil))))) [.bor c, .none, .none, .none, .none, .none, .none, .none, .none, .none, .none] [] = some (.nx [.bor c, .d (.ref 0), .none, .none, .none, .none, .none, .none, .none, .none, .none] (B a b)) := by
    simp only [xShare, toO, e0, szl, Nat.reduceLeDiff, Int.reduceLT, Int.reduceLE, Int.reduceNeg, List.length_map, List.length_append, List.nil_append, List.cons_append, at_ok, at_exc, ts_ok, ts_exc, sSeq, sSet, sRet, sRetV, sIf, sNil, sRaise, sAug, sAppOwn, sExt, sAsg, sAsg2, sPar2, sPar3, sBrk, sFor, sSetIx, sTry, calmS, slOf, slA, retOk, fnRes, gIAdd, gICat, xVar, xC, xIf, xTest, xTru, xAnd, xOr, xNot, xAndV, xOrV, xChain, xTup, xLst, xSl, oSome, oNone, op1, op2, opN, opM1, opC, aCons, aNil, lift, g1, g2, dAll, gAdd, gLen_tup, gLen_bor, gLen_new, gLen_bz, wipeS, gIx_tup, gIx_bor, gIx_bz, kS, gEq_int, gNe_int, isi_tt, isi_ts, isi_ti, isi_st, isi_ss, isi_si, isi_it, isi_is, isi_ii, gSub_e, gDiv_e, gMod_e, gLt_e, gLe_e, gGt_e, gGe_e, gNeg, gIs, gIsNot, idR, gInt, gAbs, gTy, ty_int, ty_str, ty_tup, ty_bl, ty_non, intOf, strOf, tupOf, lstOf, seqOf, dctOf, truR, truD, truC, gNm, gNilD, gConsD, gTupD, itemsE, itemsS, itemsV, iE, iV, iRg1, iRevEn, iVs, seqV, seqE, List.getElem?_cons_zero, List.getElem?_cons_succ, List.set_cons_zero, List.set_cons_succ, List.length_cons, List.length_nil, Option.map_some, Option.map_none, if_true, decide_true, decide_false, Bool.false_eq_true, if_false, ite_true, ite_false, reduceIte, Nat.reduceAdd, reduceCtorEq, Bool.not_true, Bool.not_false]
    rfl
  have g1' : (sSet 2 (opC 2 (run 23 .f_law_thing) (aCons (xVar 1) (aCons (xC (.int 5)) aNil)))) [.bor c, .d (.ref 0), .none, .none, .none, .none, .none, .none, .none, .none, .none] (B a b) = some (.nx [.bor c, .d (.ref 0), .d t, .none, .none, .none, .none, .none, .none, .none, .none] (B a1 b1)) := by simp only [e1, szl, Nat.reduceLeDiff, Int.reduceLT, Int.reduceLE, Int.reduceNeg, List.length_map, List.length_append, List.nil_append, List.cons_append, at_ok, at_exc, ts_ok, ts_exc, sSeq, sSet, sRet, sRetV, sIf, sNil, sRaise, sAug, sAppOwn, sExt, sAsg, sAsg2, sPar2, sPar3, sBrk, sFor, sSetIx, sTry, calmS, slOf, slA, retOk, fnRes, gIAdd, gICat, xVar, xC, xIf, xTest, xTru, xAnd, xOr, xNot, xAndV, xOrV, xChain, xTup, xLst, xSl, oSome, oNone, op1, op2, opN, opM1, opC, aCons, aNil, lift, g1, g2, dAll, gAdd, gLen_tup, gLen_bor, gLen_new, gLen_bz, wipeS, gIx_tup, gIx_bor, gIx_bz, kS, gEq_int, gNe_int, isi_tt, isi_ts, isi_ti, isi_st, isi_ss, isi_si, isi_it, isi_is, isi_ii, gSub_e, gDiv_e, gMod_e, gLt_e, gLe_e, gGt_e, gGe_e, gNeg, gIs, gIsNot, idR, gInt, gAbs, gTy, ty_int, ty_str, ty_tup, ty_bl, ty_non, intOf, strOf, tupOf, lstOf, seqOf, dctOf, truR, truD, truC, gNm, gNilD, gConsD, gTupD, itemsE, itemsS, itemsV, iE, iV, iRg1, iRevEn, iVs, seqV, seqE, List.getElem?_cons_zero, List.getElem?_cons_succ, List.set_cons_zero, List.set_cons_succ, List.length_cons, List.length_nil, Option.map_some, Option.map_none, if_true, decide_true, decide_false, Bool.false_eq_true, if_false, ite_true, ite_false, reduceIte, Nat.reduceAdd, reduceCtorEq, Bool.not_true, Bool.not_false]
  have g2' : (sSet 3 (opC 1 (run 23 .f_law_write) (aCons (xVar 2) aNil))) [.bor c, .d (.ref 0), .d t, .none, .none, .none, .none, .none, .none, .none, .none] (B a1 b1) = some (.nx [.bor c, .d (.ref 0), .d t, .own (.lst (I due)), .none, .none, .none, .none, .none, .none, .none] (B a1 b1)) := by simp only [e2, szl, Nat.reduceLeDiff, Int.reduceLT, Int.reduceLE, Int.reduceNeg, List.length_map, List.length_append, List.nil_append, List.cons_append, at_ok, at_exc, ts_ok, ts_exc, sSeq, sSet, sRet, sRetV, sIf, sNil, sRaise, sAug, sAppOwn, sExt, sAsg, sAsg2, sPar2, sPar3, sBrk, sFor, sSetIx, sTry, calmS, slOf, slA, retOk, fnRes, gIAdd, gICat, xVar, xC, xIf, xTest, xTru, xAnd, xOr, xNot, xAndV, xOrV, xChain, xTup, xLst, xSl, oSome, oNone, op1, op2, opN, opM1, opC, aCons, aNil, lift, g1, g2, dAll, gAdd, gLen_tup, gLen_bor, gLen_new, gLen_bz, wipeS, gIx_tup, gIx_bor, gIx_bz, kS, gEq_int, gNe_int, isi_tt, isi_ts, isi_ti, isi_st, isi_ss, isi_si, isi_it, isi_is, isi_ii, gSub_e, gDiv_e, gMod_e, gLt_e, gLe_e, gGt_e, gGe_e, gNeg, gIs, gIsNot, idR, gInt, gAbs, gTy, ty_int, ty_str, ty_tup, ty_bl, ty_non, intOf, strOf, tupOf, lstOf, seqOf, dctOf, truR, truD, truC, gNm, gNilD, gConsD, gTupD, itemsE, itemsS, itemsV, iE, iV, iRg1, iRevEn, iVs, seqV, seqE, List.getElem?_cons_zero, List.getElem?_cons_succ, List.set_cons_zero, List.set_cons_succ, List.length_cons, List.length_nil, Option.map_some, Option.map_none, if_true, decide_true, decide_false, Bool.false_eq_true, if_false, ite_true, ite_false, reduceIte, Nat.reduceAdd, reduceCtorEq, Bool.not_true, Bool.not_false]
  have g3 : (sSet 4 (opN (g1 gTuple) (aCons (op2 gAdd (xVar 3) (opC 1 (run 23 .f_law_sums) (aCons (xVar 3) aNil))) aNil))) [.bor c, .d (.ref 0), .d t, .own (.lst (I due)), .none, .none, .none, .none, .none, .none, .none] (B a1 b1) = some (.nx [.bor c, .d (.ref 0), .d t, .own (.lst (I due)), .d (.tup (I row)), .none, .none, .none, .none, .none, .none] (B a1 b1)) := by
    rw [hrow]
    simp only [e3, hs2, show due.length + 2 ≤ 16777216 from by omega, I_app, gTuple, szl, Nat.reduceLeDiff, Int.reduceLT, Int.reduceLE, Int.reduceNeg, List.length_map, List.length_append, List.nil_append, List.cons_append, at_ok, at_exc, ts_ok, ts_exc, sSeq, sSet, sRet, sRetV, sIf, sNil, sRaise, sAug, sAppOwn, sExt, sAsg, sAsg2, sPar2, sPar3, sBrk, sFor, sSetIx, sTry, calmS, slOf, slA, retOk, fnRes, gIAdd, gICat, xVar, xC, xIf, xTest, xTru, xAnd, xOr, xNot, xAndV, xOrV, xChain, xTup, xLst, xSl, oSome, oNone, op1, op2, opN, opM1, opC, aCons, aNil, lift, g1, g2, dAll, gAdd, gLen_tup, gLen_bor, gLen_new, gLen_bz, wipeS, gIx_tup, gIx_bor, gIx_bz, kS, gEq_int, gNe_int, isi_tt, isi_ts, isi_ti, isi_st, isi_ss, isi_si, isi_it, isi_is, isi_ii, gSub_e, gDiv_e, gMod_e, gLt_e, gLe_e, gGt_e, gGe_e, gNeg, gIs, gIsNot, idR, gInt, gAbs, gTy, ty_int, ty_str, ty_tup, ty_bl, ty_non, intOf, strOf, tupOf, lstOf, seqOf, dctOf, truR, truD, truC, gNm, gNilD, gConsD, gTupD, itemsE, itemsS, itemsV, iE, iV, iRg1, iRevEn, iVs, seqV, seqE, List.getElem?_cons_zero, List.getElem?_cons_succ, List.set_cons_zero, List.set_cons_succ, List.length_cons, List.length_nil, Option.map_some, Option.map_none, if_true, decide_true, decide_false, Bool.false_eq_true, if_false, ite_true, ite_false, reduceIte, Nat.reduceAdd, reduceCtorEq, Bool.not_true, Bool.not_false]
  have g4 : (sIf (xTest (op2 gNe (xTold (run 23 .f_law_read) nmF (opC 1 (run 23 .f_sent) (aCons (xVar 2) aNil))) (xTup (aCons (xC (.int 0)) (aCons (xVar 4) aNil))))) (sRet (xC (.bl false))) sNil) [.bor c, .d (.ref 0), .d t, .own (.lst (I due)), .d (.tup (I row)), .none, .none, .none, .none, .none, .none] (B a1 b1) = some (.nx [.bor c, .d (.ref 0), .d t, .own (.lst (I due)), .d (.tup (I row)), .none, .none, .none, .none, .none, .none] (B a1 b1)) :=
    same_nx _ (told_ok (v := .tup (I row)) (m := 2) (by simp only [eS, szl, Nat.reduceLeDiff, Int.reduceLT, Int.reduceLE, Int.reduceNeg, List.length_map, List.length_append, List.nil_append, List.cons_append, at_ok, at_exc, ts_ok, ts_exc, sSeq, sSet, sRet, sRetV, sIf, sNil, sRaise, sAug, sAppOwn, sExt, sAsg, sAsg2, sPar2, sPar3, sBrk, sFor, sSetIx, sTry, calmS, slOf, slA, retOk, fnRes, gIAdd, gICat, xVar, xC, xIf, xTest, xTru, xAnd, xOr, xNot, xAndV, xOrV, xChain, xTup, xLst, xSl, oSome, oNone, op1, op2, opN, opM1, opC, aCons, aNil, lift, g1, g2, dAll, gAdd, gLen_tup, gLen_bor, gLen_new, gLen_bz, wipeS, gIx_tup, gIx_bor, gIx_bz, kS, gEq_int, gNe_int, isi_tt, isi_ts, isi_ti, isi_st, isi_ss, isi_si, isi_it, isi_is, isi_ii, gSub_e, gDiv_e, gMod_e, gLt_e, gLe_e, gGt_e, gGe_e, gNeg, gIs, gIsNot, idR, gInt, gAbs, gTy, ty_int, ty_str, ty_tup, ty_bl, ty_non, intOf, strOf, tupOf, lstOf, seqOf, dctOf, truR, truD, truC, gNm, gNilD, gConsD, gTupD, itemsE, itemsS, itemsV, iE, iV, iRg1, iRevEn, iVs, seqV, seqE, List.getElem?_cons_zero, List.getElem?_cons_succ, List.set_cons_zero, List.set_cons_succ, List.length_cons, List.length_nil, Option.map_some, Option.map_none, if_true, decide_true, decide_false, Bool.false_eq_true, if_false, ite_true, ite_false, reduceIte, Nat.reduceAdd, reduceCtorEq, Bool.not_true, Bool.not_false]) (rda_I (by omega) 0) (by decide)) (by simp only [szl, Nat.reduceLeDiff, Int.reduceLT, Int.reduceLE, Int.reduceNeg, List.length_map, List.length_append, List.nil_append, List.cons_append, at_ok, at_exc, ts_ok, ts_exc, sSeq, sSet, sRet, sRetV, sIf, sNil, sRaise, sAug, sAppOwn, sExt, sAsg, sAsg2, sPar2, sPar3, sBrk, sFor, sSetIx, sTry, calmS, slOf, slA, retOk, fnRes, gIAdd, gICat, xVar, xC, xIf, xTest, xTru, xAnd, xOr, xNot, xAndV, xOrV, xChain, xTup, xLst, xSl, oSome, oNone, op1, op2, opN, opM1, opC, aCons, aNil, lift, g1, g2, dAll, gAdd, gLen_tup, gLen_bor, gLen_new, gLen_bz, wipeS, gIx_tup, gIx_bor, gIx_bz, kS, gEq_int, gNe_int, isi_tt, isi_ts, isi_ti, isi_st, isi_ss, isi_si, isi_it, isi_is, isi_ii, gSub_e, gDiv_e, gMod_e, gLt_e, gLe_e, gGt_e, gGe_e, gNeg, gIs, gIsNot, idR, gInt, gAbs, gTy, ty_int, ty_str, ty_tup, ty_bl, ty_non, intOf, strOf, tupOf, lstOf, seqOf, dctOf, truR, truD, truC, gNm, gNilD, gConsD, gTupD, itemsE, itemsS, itemsV, iE, iV, iRg1, iRevEn, iVs, seqV, seqE, List.getElem?_cons_zero, List.getElem?_cons_succ, List.set_cons_zero, List.set_cons_succ, List.length_cons, List.length_nil, Option.map_some, Option.map_none, if_true, decide_true, decide_false, Bool.false_eq_true, if_false, ite_true, ite_false, reduceIte, Nat.reduceAdd, reduceCtorEq, Bool.not_true, Bool.not_false]) (plain_pair (i := 0) (plain_I row)) (by decide)
  have eR : run 23 .f_received [.d (.tup (I row))] (B a1 b1) = some (.ok (.d (yes t)) (B a1 b1)) := by
    have e : run 23 .f_received [.d (.tup (I row))] (B a1 b1) = some (.ok (.d (rcv 6 row)) (B a1 b1)) := ev_received 6 20 row (B a1 b1) (by omega) (by decide) fun _ _ => by
      have : body2 row = due := by rw [hrow]; exact body2_app _ _ _
      rw [this]
      exact ⟨_, hd⟩
    have e2 : rcv 6 row = yes t := by rw [hrow]; exact rcv_good hB0 hd
    rw [e, e2]
  have g5 : (sIf (xTest (op2 gNe (xTold (run 23 .f_law_read) nmF (opC 1 (run 23 .f_received) (aCons (xVar 4) aNil))) (xTup (aCons (xC (.int 0)) (aCons (xTup (aCons (xC (.str "yes")) (aCons (xVar 2) aNil))) aNil))))) (sRet (xC (.bl false))) sNil) [.bor c, .d (.ref 0), .d t, .own (.lst (I due)), .d (.tup (I row)), .none, .none, .none, .none, .none, .none] (B a1 b1) = some (.nx [.bor c, .d (.ref 0), .d t, .own (.lst (I due)), .d (.tup (I row)), .none, .none, .none, .none, .none, .none] (B a1 b1)) :=
    same_nx _ (told_ok (v := yes t) (m := 7) (by simp only [eR, szl, Nat.reduceLeDiff, Int.reduceLT, Int.reduceLE, Int.reduceNeg, List.length_map, List.length_append, List.nil_append, List.cons_append, at_ok, at_exc, ts_ok, ts_exc, sSeq, sSet, sRet, sRetV, sIf, sNil, sRaise, sAug, sAppOwn, sExt, sAsg, sAsg2, sPar2, sPar3, sBrk, sFor, sSetIx, sTry, calmS, slOf, slA, retOk, fnRes, gIAdd, gICat, xVar, xC, xIf, xTest, xTru, xAnd, xOr, xNot, xAndV, xOrV, xChain, xTup, xLst, xSl, oSome, oNone, op1, op2, opN, opM1, opC, aCons, aNil, lift, g1, g2, dAll, gAdd, gLen_tup, gLen_bor, gLen_new, gLen_bz, wipeS, gIx_tup, gIx_bor, gIx_bz, kS, gEq_int, gNe_int, isi_tt, isi_ts, isi_ti, isi_st, isi_ss, isi_si, isi_it, isi_is, isi_ii, gSub_e, gDiv_e, gMod_e, gLt_e, gLe_e, gGt_e, gGe_e, gNeg, gIs, gIsNot, idR, gInt, gAbs, gTy, ty_int, ty_str, ty_tup, ty_bl, ty_non, intOf, strOf, tupOf, lstOf, seqOf, dctOf, truR, truD, truC, gNm, gNilD, gConsD, gTupD, itemsE, itemsS, itemsV, iE, iV, iRg1, iRevEn, iVs, seqV, seqE, List.getElem?_cons_zero, List.getElem?_cons_succ, List.set_cons_zero, List.set_cons_succ, List.length_cons, List.length_nil, Option.map_some, Option.map_none, if_true, decide_true, decide_false, Bool.false_eq_true, if_false, ite_true, ite_false, reduceIte, Nat.reduceAdd, reduceCtorEq, Bool.not_true, Bool.not_false]) (rda_yes (m := 5) (Rda.ok 6 t ho)) (by decide)) (by simp only [yes, szl, Nat.reduceLeDiff, Int.reduceLT, Int.reduceLE, Int.reduceNeg, List.length_map, List.length_append, List.nil_append, List.cons_append, at_ok, at_exc, ts_ok, ts_exc, sSeq, sSet, sRet, sRetV, sIf, sNil, sRaise, sAug, sAppOwn, sExt, sAsg, sAsg2, sPar2, sPar3, sBrk, sFor, sSetIx, sTry, calmS, slOf, slA, retOk, fnRes, gIAdd, gICat, xVar, xC, xIf, xTest, xTru, xAnd, xOr, xNot, xAndV, xOrV, xChain, xTup, xLst, xSl, oSome, oNone, op1, op2, opN, opM1, opC, aCons, aNil, lift, g1, g2, dAll, gAdd, gLen_tup, gLen_bor, gLen_new, gLen_bz, wipeS, gIx_tup, gIx_bor, gIx_bz, kS, gEq_int, gNe_int, isi_tt, isi_ts, isi_ti, isi_st, isi_ss, isi_si, isi_it, isi_is, isi_ii, gSub_e, gDiv_e, gMod_e, gLt_e, gLe_e, gGt_e, gGe_e, gNeg, gIs, gIsNot, idR, gInt, gAbs, gTy, ty_int, ty_str, ty_tup, ty_bl, ty_non, intOf, strOf, tupOf, lstOf, seqOf, dctOf, truR, truD, truC, gNm, gNilD, gConsD, gTupD, itemsE, itemsS, itemsV, iE, iV, iRg1, iRevEn, iVs, seqV, seqE, List.getElem?_cons_zero, List.getElem?_cons_succ, List.set_cons_zero, List.set_cons_succ, List.length_cons, List.length_nil, Option.map_some, Option.map_none, if_true, decide_true, decide_false, Bool.false_eq_true, if_false, ite_true, ite_false, reduceIte, Nat.reduceAdd, reduceCtorEq, Bool.not_true, Bool.not_false]) (plain_pair (i := 0) (plain_yes (Ok.plain 6 t ho))) (by decide)
  obtain ⟨x5, x6, x7, x8, x9, a2, b2, eL⟩ := loop_ok (s0 := .bor c) (s3 := .own (.lst (I due))) (x10 := .none) (t := t) (row := row) hv hB (by omega) (by omega) 6 0 a1 b1 .none .none .none .none .none
  have g6 : (sFor (iRg1 (xC (.int 6))) (gNm 5) (sSeq (sSet 6 (opC 2 (run 23 .f_law_draw) (aCons (xVar 1) (aCons (opN (g1 gLen) (aCons (xVar 4) aNil)) aNil))))
  (sSeq (sSet 7 (op2 gMod (opN (g1 gInt) (aCons (op2 gAdd (op2 gAdd (op2 gIx (xVar 4) (xVar 6)) (xC (.int 1))) (opC 2 (run 23 .f_law_draw) (aCons (xVar 1) (aCons (xC (.int 255)) aNil)))) aNil)) (xC (.int 256))))
  (sSeq (sSet 8 (op2 gAdd (op2 gAdd (xSl (xVar 4) oNone (oSome (xVar 6))) (xTup (aCons (xVar 7) aNil))) (xSl (xVar 4) (oSome (op2 gAdd (xVar 6) (xC (.int 1)))) oNone)))
  (sSeq (sIf (xTest (op2 gNe (xTold (run 23 .f_law_read) nmF (opC 1 (run 23 .f_received) (aCons (xVar 8) aNil))) (xTup (aCons (xC (.int 0)) (aCons (xTup (aCons (xC (.str "no")) aNil)) aNil))))) (sRet (xC (.bl false))) sNil)
  (sSeq (sSet 6 (opC 2 (run 23 .f_law_draw) (aCons (xVar 1) (aCons (op2 gSub (opN (g1 gLen) (aCons (xVar 4) aNil)) (xC (.int 1))) aNil))))
  (sSeq (sSet 8 (op2 gAdd (op2 gAdd (xSl (xVar 4) oNone (oSome (xVar 6))) (xTup (aCons (op2 gIx (xVar 4) (op2 gAdd (xVar 6) (xC (.int 1)))) (aCons (op2 gIx (xVar 4) (xVar 6)) aNil)))) (xSl (xVar 4) (oSome (op2 gAdd (xVar 6) (xC (.int 2)))) oNone)))
  (sSeq (sIf (xAnd (xTest (op2 gNe (op2 gIx (xVar 4) (xVar 6)) (op2 gIx (xVar 4) (op2 gAdd (xVar 6) (xC (.int 1)))))) (xTest (op2 gNe (xTold (run 23 .f_law_read) nmF (opC 1 (run 23 .f_received) (aCons (xVar 8) aNil))) (xTup (aCons (xC (.int 0)) (aCons (xTup (aCons (xC (.str "no")) aNil)) aNil)))))) (sRet (xC (.bl false))) sNil)
  (sSeq (sSet 9 (xLc (iRg1 (opC 2 (run 23 .f_law_draw) (aCons (xVar 1) (aCons (xC (.int 7)) aNil)))) [7] (gNm 7) xYes (op2 gIx (xTup (aCons (xC (.int 1)) (aCons (xC (.int 2)) (aCons (xC (.int 3)) (aCons (xC (.int 0)) (aCons (xC (.int 43)) (aCons (xC (.int 44)) (aCons (xC (.int 129)) (aCons (xC (.int 3)) aNil))))))))) (opC 2 (run 23 .f_law_draw) (aCons (xVar 1) (aCons (xC (.int 8)) aNil))))))
  (sSeq (sSet 8 (opN (g1 gTuple) (aCons (op2 gAdd (xVar 9) (opC 1 (run 23 .f_law_sums) (aCons (xVar 9) aNil))) aNil)))
  (sIf (xTest (op2 gNe (xTold (run 23 .f_law_read) nmF (opC 1 (run 23 .f_received) (aCons (xVar 8) aNil))) (xTup (aCons (xC (.int 0)) (aCons (opC 1 (run 23 .f_law_received) (aCons (xVar 8) aNil)) aNil))))) (sRet (xC (.bl false))) sNil))))))))))) [.bor c, .d (.ref 0), .d t, .own (.lst (I due)), .d (.tup (I row)), .none, .none, .none, .none, .none, .none] (B a1 b1) = some (.nx [.bor c, .d (.ref 0), .d t, .own (.lst (I due)), .d (.tup (I row)), x5, x6, x7, x8, x9, .none] (B a2 b2)) := (for6 _ _ _ _).trans eL
  have eBad : run 23 .f_sent [.d (.tup [t, .str "aA"])] (B a2 b2) = some (.exc "BadRun" (B a2 b2)) := sent_bad 6 19 t (B a2 b2) ho (by decide) (by decide)
  have g7 : (sIf (xTest (op2 gNe (xTold (run 23 .f_law_read) nmF (opC 1 (run 23 .f_sent) (aCons (xTup (aCons (xVar 2) (aCons (xC (.str "aA")) aNil))) aNil))) (xTup (aCons (xC (.int 1)) (aCons (xC (.str "run")) aNil))))) (sRet (xC (.bl false))) sNil) [.bor c, .d (.ref 0), .d t, .own (.lst (I due)), .d (.tup (I row)), x5, x6, x7, x8, x9, .none] (B a2 b2) = some (.nx [.bor c, .d (.ref 0), .d t, .own (.lst (I due)), .d (.tup (I row)), x5, x6, x7, x8, x9, .none] (B a2 b2)) :=
    same_nx _ (told_bad (by simp only [eBad, szl, Nat.reduceLeDiff, Int.reduceLT, Int.reduceLE, Int.reduceNeg, List.length_map, List.length_append, List.nil_append, List.cons_append, at_ok, at_exc, ts_ok, ts_exc, sSeq, sSet, sRet, sRetV, sIf, sNil, sRaise, sAug, sAppOwn, sExt, sAsg, sAsg2, sPar2, sPar3, sBrk, sFor, sSetIx, sTry, calmS, slOf, slA, retOk, fnRes, gIAdd, gICat, xVar, xC, xIf, xTest, xTru, xAnd, xOr, xNot, xAndV, xOrV, xChain, xTup, xLst, xSl, oSome, oNone, op1, op2, opN, opM1, opC, aCons, aNil, lift, g1, g2, dAll, gAdd, gLen_tup, gLen_bor, gLen_new, gLen_bz, wipeS, gIx_tup, gIx_bor, gIx_bz, kS, gEq_int, gNe_int, isi_tt, isi_ts, isi_ti, isi_st, isi_ss, isi_si, isi_it, isi_is, isi_ii, gSub_e, gDiv_e, gMod_e, gLt_e, gLe_e, gGt_e, gGe_e, gNeg, gIs, gIsNot, idR, gInt, gAbs, gTy, ty_int, ty_str, ty_tup, ty_bl, ty_non, intOf, strOf, tupOf, lstOf, seqOf, dctOf, truR, truD, truC, gNm, gNilD, gConsD, gTupD, itemsE, itemsS, itemsV, iE, iV, iRg1, iRevEn, iVs, seqV, seqE, List.getElem?_cons_zero, List.getElem?_cons_succ, List.set_cons_zero, List.set_cons_succ, List.length_cons, List.length_nil, Option.map_some, Option.map_none, if_true, decide_true, decide_false, Bool.false_eq_true, if_false, ite_true, ite_false, reduceIte, Nat.reduceAdd, reduceCtorEq, Bool.not_true, Bool.not_false])) (by simp only [szl, Nat.reduceLeDiff, Int.reduceLT, Int.reduceLE, Int.reduceNeg, List.length_map, List.length_append, List.nil_append, List.cons_append, at_ok, at_exc, ts_ok, ts_exc, sSeq, sSet, sRet, sRetV, sIf, sNil, sRaise, sAug, sAppOwn, sExt, sAsg, sAsg2, sPar2, sPar3, sBrk, sFor, sSetIx, sTry, calmS, slOf, slA, retOk, fnRes, gIAdd, gICat, xVar, xC, xIf, xTest, xTru, xAnd, xOr, xNot, xAndV, xOrV, xChain, xTup, xLst, xSl, oSome, oNone, op1, op2, opN, opM1, opC, aCons, aNil, lift, g1, g2, dAll, gAdd, gLen_tup, gLen_bor, gLen_new, gLen_bz, wipeS, gIx_tup, gIx_bor, gIx_bz, kS, gEq_int, gNe_int, isi_tt, isi_ts, isi_ti, isi_st, isi_ss, isi_si, isi_it, isi_is, isi_ii, gSub_e, gDiv_e, gMod_e, gLt_e, gLe_e, gGt_e, gGe_e, gNeg, gIs, gIsNot, idR, gInt, gAbs, gTy, ty_int, ty_str, ty_tup, ty_bl, ty_non, intOf, strOf, tupOf, lstOf, seqOf, dctOf, truR, truD, truC, gNm, gNilD, gConsD, gTupD, itemsE, itemsS, itemsV, iE, iV, iRg1, iRevEn, iVs, seqV, seqE, List.getElem?_cons_zero, List.getElem?_cons_succ, List.set_cons_zero, List.set_cons_succ, List.length_cons, List.length_nil, Option.map_some, Option.map_none, if_true, decide_true, decide_false, Bool.false_eq_true, if_false, ite_true, ite_false, reduceIte, Nat.reduceAdd, reduceCtorEq, Bool.not_true, Bool.not_false]) (plain_pair (i := 1) (plain_str (z := "run") (by decide +kernel))) (by decide)
  obtain ⟨j, w, a3, b3, g8, hj, hw⟩ := f8 (s0 := .bor c) (s3 := .own (.lst (I due))) (x5 := x5) (x6 := x6) (x7 := x7) (x8 := x8) (x9 := x9) (x10 := .none) (t := t) (row := row) a2 b2 (by omega) (by omega)
  obtain ⟨A, x, C, hsp, rfl⟩ := split_at hj
  obtain ⟨x8', g9⟩ := f9 (s0 := .bor c) (s3 := .own (.lst (I due))) (x5 := x5) (x7 := x7) (x8 := x8) (x9 := x9) (t := t) (row := row) (B a3 b3) A C x w hsp (by omega) hw
  have eE : run 23 .f_received [.d (.str "")] (B a3 b3) = some (.ok (.d no) (B a3 b3)) := received_str 22 (B a3 b3)
  have g10 : (sRet (op2 gEq (xTold (run 23 .f_law_read) nmF (opC 1 (run 23 .f_received) (aCons (xC (.str "")) aNil))) (xTup (aCons (xC (.int 0)) (aCons (xTup (aCons (xC (.str "no")) aNil)) aNil))))) [.bor c, .d (.ref 0), .d t, .own (.lst (I due)), .d (.tup (I row)), x5, .d (.int (A.length : Nat)), x7, x8', x9, .d (.int w)] (B a3 b3) = some (.ret (.d (.bl true)) (B a3 b3)) := by
    have et := told_ok (S := [.bor c, .d (.ref 0), .d t, .own (.lst (I due)), .d (.tup (I row)), x5, .d (.int (A.length : Nat)), x7, x8', x9, .d (.int w)]) (h := B a3 b3) (fb := opC 1 (run 23 .f_received) (aCons (xC (.str "")) aNil)) (v := no) (m := 2) (by simp only [eE, szl, Nat.reduceLeDiff, Int.reduceLT, Int.reduceLE, Int.reduceNeg, List.length_map, List.length_append, List.nil_append, List.cons_append, at_ok, at_exc, ts_ok, ts_exc, sSeq, sSet, sRet, sRetV, sIf, sNil, sRaise, sAug, sAppOwn, sExt, sAsg, sAsg2, sPar2, sPar3, sBrk, sFor, sSetIx, sTry, calmS, slOf, slA, retOk, fnRes, gIAdd, gICat, xVar, xC, xIf, xTest, xTru, xAnd, xOr, xNot, xAndV, xOrV, xChain, xTup, xLst, xSl, oSome, oNone, op1, op2, opN, opM1, opC, aCons, aNil, lift, g1, g2, dAll, gAdd, gLen_tup, gLen_bor, gLen_new, gLen_bz, wipeS, gIx_tup, gIx_bor, gIx_bz, kS, gEq_int, gNe_int, isi_tt, isi_ts, isi_ti, isi_st, isi_ss, isi_si, isi_it, isi_is, isi_ii, gSub_e, gDiv_e, gMod_e, gLt_e, gLe_e, gGt_e, gGe_e, gNeg, gIs, gIsNot, idR, gInt, gAbs, gTy, ty_int, ty_str, ty_tup, ty_bl, ty_non, intOf, strOf, tupOf, lstOf, seqOf, dctOf, truR, truD, truC, gNm, gNilD, gConsD, gTupD, itemsE, itemsS, itemsV, iE, iV, iRg1, iRevEn, iVs, seqV, seqE, List.getElem?_cons_zero, List.getElem?_cons_succ, List.set_cons_zero, List.set_cons_succ, List.length_cons, List.length_nil, Option.map_some, Option.map_none, if_true, decide_true, decide_false, Bool.false_eq_true, if_false, ite_true, ite_false, reduceIte, Nat.reduceAdd, reduceCtorEq, Bool.not_true, Bool.not_false]) (rda_no 0) (by decide)
    simp only [et, (same_eq (plain_pair (i := 0) plain_no) (by decide) (B a3 b3)).1, show D.tup [D.str "no"] = no from rfl, szl, Nat.reduceLeDiff, Int.reduceLT, Int.reduceLE, Int.reduceNeg, List.length_map, List.length_append, List.nil_append, List.cons_append, at_ok, at_exc, ts_ok, ts_exc, sSeq, sSet, sRet, sRetV, sIf, sNil, sRaise, sAug, sAppOwn, sExt, sAsg, sAsg2, sPar2, sPar3, sBrk, sFor, sSetIx, sTry, calmS, slOf, slA, retOk, fnRes, gIAdd, gICat, xVar, xC, xIf, xTest, xTru, xAnd, xOr, xNot, xAndV, xOrV, xChain, xTup, xLst, xSl, oSome, oNone, op1, op2, opN, opM1, opC, aCons, aNil, lift, g1, g2, dAll, gAdd, gLen_tup, gLen_bor, gLen_new, gLen_bz, wipeS, gIx_tup, gIx_bor, gIx_bz, kS, gEq_int, gNe_int, isi_tt, isi_ts, isi_ti, isi_st, isi_ss, isi_si, isi_it, isi_is, isi_ii, gSub_e, gDiv_e, gMod_e, gLt_e, gLe_e, gGt_e, gGe_e, gNeg, gIs, gIsNot, idR, gInt, gAbs, gTy, ty_int, ty_str, ty_tup, ty_bl, ty_non, intOf, strOf, tupOf, lstOf, seqOf, dctOf, truR, truD, truC, gNm, gNilD, gConsD, gTupD, itemsE, itemsS, itemsV, iE, iV, iRg1, iRevEn, iVs, seqV, seqE, List.getElem?_cons_zero, List.getElem?_cons_succ, List.set_cons_zero, List.set_cons_succ, List.length_cons, List.length_nil, Option.map_some, Option.map_none, if_true, decide_true, decide_false, Bool.false_eq_true, if_false, ite_true, ite_false, reduceIte, Nat.reduceAdd, reduceCtorEq, Bool.not_true, Bool.not_false]
  refine ⟨B a3 b3, ?_⟩
  show run (23 + 1) .f_law [.bor c] [] = _
  rw [r_f_law]
  have all := (sSeq_nx g0).trans ((sSeq_nx g1').trans ((sSeq_nx g2').trans ((sSeq_nx g3).trans ((sSeq_nx g4).trans ((sSeq_nx g5).trans ((sSeq_nx g6).trans ((sSeq_nx g7).trans ((sSeq_nx g8).trans ((sSeq_nx g9).trans g10)))))))))
  exact congrArg fnRes all
end Sh65
set_option Elab.async false
set_option linter.all false
set_option maxRecDepth 100000
set_option maxHeartbeats 2000000
namespace Sh65
open PySem PySem.Spec PyProof.Rows L2 Sh
structure ExcK (K : PySem.W.Frag) (mg : Str → Option Value) (C : Addr) (x : Str) : Prop where
  ex : ∃ (bmB : List Value) (B newId initId : String), ExcBaseFacts B newId initId bmB ∧ PySem.W.excIn K C bmB newId = true
  g : mg x = some (.ref C)
  k : PySem.W.keepIn K (.ref C) = true
  s : PySem.W.subIn K (.ref C) (.type "BaseException") = some true
  t : PySem.W.typeIn K (.ref C) = some (.type "type")
theorem exc_at {X : Cx} {c : Cc} {x cn : Str} (e : ExcK X.K X.mg (c.cad cn) x) : ExcAt X c x cn := ⟨e.ex, e.g, e.k, raises_own e.s e.t⟩
theorem room_gen {k : Nat} {A : Around} {env : Env} (r : Room (k + 1) A) : Room k (A.in1.in1.deeper env) :=
  ⟨r.hd, by have := r.dp; show A.depth + 1 + 3 * k + 5 < _; omega, by have := r.un; show A.units + 1 + 1 + 3 + 16 * k + 200 < _; omega⟩
theorem hu64 {k : Nat} {A : Around} (r : Room k A) : A.units + 64 < cLine := by have := r.un; show A.units + 64 < _; omega
def adr (K : PySem.W.Frag) (f : Fn) : Addr := He.ga K (nmOf f)
def cadK (K : PySem.W.Frag) (cn : Str) : Addr := He.ga K cn
def qOf (f : Fn) : Str := (envOfC (nmOf f) (defScope (stOf f)) 0 0 .none).qual
/-- a def's code object, its table, which tells code objects of one name -/
structure TabF (K : PySem.W.Frag) (base : Heap) (mg : Str → Option Value) (T : List (Addr × Str)) (fd : FuncData) (q : Str) (c P : Addr) : Prop where
  tb : LamX.TabB base mg c P
  code : fd.code = .ref c
  mem : (P, q) ∈ T
  uniq : ∀ p ∈ T, p.1 = P → p.2 = q
/-- what is known of the module -/
structure Fx (K : PySem.W.Frag) (mg : Str → Option Value) (base : Heap) (T : List (Addr × Str)) where
  fd : Fn → FuncData
  fun_ : ∀ f, FunD K (nmOf f) (nmOf f) (defArgs (stOf f)) (defBody (stOf f)) (defScope (stOf f)) [] [] (adr K f) (fd f)
  mg_ : ∀ f, mg (nmOf f) = some (.ref (adr K f))
  binds : ∀ f, Binds K (fd f) (psOf f) []
  keep : ∀ f, PySem.W.keepIn K (.ref (adr K f)) = true
  no_len : mg "len" = none
  no_abs : mg "abs" = none
  no_isinstance : mg "isinstance" = none
  no_int : mg "int" = none
  no_str : mg "str" = none
  no_type : mg "type" = none
  no_tuple : mg "tuple" = none
  no_list : mg "list" = none
  no_range : mg "range" = none
  no_any : mg "any" = none
  no_all : mg "all" = none
  no_reversed : mg "reversed" = none
  no_enumerate : mg "enumerate" = none
  no_bool : mg "bool" = none
  tS : Tok
  g_SIGNS : mg "SIGNS" = some (.str k_SIGNS tS)
  x_BadRun : ExcK K mg (cadK K "BadRun") "BadRun"
  x_Wrong : ExcK K mg (cadK K "Wrong") "Wrong"
  m_Wrong : ∀ cn b, m_Wrong cn = some b → PySem.W.exmOne K (.ref (cadK K cn)) (.ref (cadK K "Wrong")) = some b
  g_Tr : mg "TypeTroubles" = some (.ref (cadK K "TypeTroubles"))
  g_BP : mg "BadProgram" = some (.ref (cadK K "BadProgram"))
  g_BQ : mg "BadQuestion" = some (.ref (cadK K "BadQuestion"))
  g_BR : mg "BadRun" = some (.ref (cadK K "BadRun"))
  g_NT : mg "NotThere" = some (.ref (cadK K "NotThere"))
  told : ∀ cn nm, nmF cn = some nm → ToldC K (cadK K "TypeTroubles") (cadK K "BadProgram") (cadK K "BadQuestion") (cadK K "BadRun") (cadK K "NotThere") ⟨"program", "question", "run", "there", "other"⟩ (cadK K cn) nm
  cT : Fn → Addr × Addr
  tab_g : ∀ f ∈ [Fn.f_written, .f_thing_at, .f_received], TabF K base mg T (fd f) (qOf f ++ "<genexpr>") (cT f).1 (cT f).2
  tab_l : TabF K base mg T (fd .f_law) (qOf .f_law ++ "<lambda>") (cT .f_law).1 (cT .f_law).2
/-- a def by the reading of its body -/
theorem fn_bd {P : Program} {w : World} {K : PySem.W.Frag} {mg : Str → Option Value} {base : Heap} {T : List (Addr × Str)} (Z : Fx K mg base T) (f : Fn) {k : Nat} {rn : Fn → Fd} (S : FnScope (locOf f) (psOf f) (defScope (stOf f)))
    (hb : ∀ (cdv : Value) (A : Around) (outer : List Env) (s : Shared) (ρ0 : List Addr) (H : Hp) (E : XK), (Z.fd f).code = cdv → Room k (A.deeper (envOfC (nmOf f) (defScope (stOf f)) s.heap.objs.size (adr K f) cdv)) →
      CSs (cxOf (L2.CX P w) P w K mg base (locOf f) (nmOf f) (defScope (stOf f)) (adr K f) cdv A outer s H E) ⟨T, cadK K, ρ0, H, fun cls d _ H' => E cls d H'⟩ (defBody (stOf f)) (bdOf f rn)) :
    FnOk P w K mg base (L2.CX P w) (k + 1) (adr K f) (Z.fd f) (psOf f) (spF ⟨K, T, cadK K⟩ (psOf f).length (denF (psOf f).length (locOf f).length (bdOf f rn))) := by
  obtain ⟨oc, od, dV, kV, doc, pm, an, cdv, ct, osl, e, lk, hcd, _⟩ := (Z.fun_ f).ex
  rw [e] at lk ⊢
  exact fn_den lk hcd S fun A outer s ρ0 H E hr => hb cdv A outer s ρ0 H E (by rw [e] <;> rfl) hr
abbrev OkF (P : Program) (w : World) (K : PySem.W.Frag) (mg : Str → Option Value) (base : Heap) (T : List (Addr × Str)) (Z : Fx K mg base T) (k : Nat) (rn : Fn → Fd) (f : Fn) : Prop :=
  FnOk P w K mg base (L2.CX P w) k (adr K f) (Z.fd f) (psOf f) (spF ⟨K, T, cadK K⟩ (psOf f).length (rn f))
/-- a value that is not told as a trouble is left as it is -/
theorem spF_weak {p : Pm} {np : Nat} {g : Fd} (vs : List V) (H : Hp) (Q : VK) (E : XK) (e : spF p np g vs H Q fun _ _ _ => False) : spF p np g vs H Q E := by
  obtain ⟨h1, ρ, h, Ha, rs, h2, h3, h4, h5⟩ := e
  refine ⟨h1, ρ, h, Ha, rs, h2, h3, h4, ?_⟩
  cases hg : g rs h with
  | none => rw [hg] at h5; exact h5
  | some r =>
    rw [hg] at h5
    cases r with
    | ok a h' => exact h5
    | exc c h' => exact fun ρ' H' n => (h5 ρ' H' n).elim
abbrev cxF (P : Program) (w : World) (K : PySem.W.Frag) (mg : Str → Option Value) (base : Heap) (f : Fn) (cdv : Value) (A : Around) (outer : List Env) (s : Shared) (H : Hp) (E : XK) : Cx :=
  cxOf (L2.CX P w) P w K mg base (locOf f) (nmOf f) (defScope (stOf f)) (adr K f) cdv A outer s H E
theorem told_at {P : Program} {w : World} {K : PySem.W.Frag} {mg : Str → Option Value} {base : Heap} {T : List (Addr × Str)} (Z : Fx K mg base T) {k : Nat} {cs : Fn → Fd} (cdv : Value) (A : Around) (outer : List Env) (s : Shared) (H : Hp) (E : XK)
    (IH : ∀ f, OkF P w K mg base T Z (4 * k) cs f) (hr : Room (4 * k + 3) (A.deeper (envOfC (nmOf .f_law) (defScope (stOf .f_law)) s.heap.objs.size (adr K .f_law) cdv))) :
    ∃ cdT : Value, Taker (cxF P w K mg base .f_law cdv A outer s H E) "_law_told" "call" (adr K .f_law_told) (Z.fd .f_law_told) ["call", "e"] (defBody (stOf .f_law_told)) (defScope (stOf .f_law_told)) cdT
      ∧ LamX.GivesTo (cxF P w K mg base .f_law cdv A outer s H E) ["call", "e"] "_law_told" (defScope (stOf .f_law_told)) (adr K .f_law_told) cdT (defBody (stOf .f_law_told)) "call" ((cxF P w K mg base .f_law cdv A outer s H E).env.qual ++ "<lambda>")
          (TToldS K (cadK K "TypeTroubles") (cadK K "BadProgram") (cadK K "BadQuestion") (cadK K "BadRun") (cadK K "NotThere") ⟨"program", "question", "run", "there", "other"⟩ (spF ⟨K, T, cadK K⟩ 1 (cs .f_law_read))) := by
  obtain ⟨oc, od, dV, kV, doc, pm, an, cdT, ct, osl, e, lk, hcd, _⟩ := (Z.fun_ .f_law_told).ex
  refine ⟨cdT, ⟨⟨_, dV, kV, doc, pm, ct, oc, an, od, osl, e, lk⟩, hcd, Z.mg_ .f_law_told, Z.keep .f_law_told, Z.binds .f_law_told, ⟨rfl, rfl, rfl, by decide +kernel, rfl, by decide +kernel, by decide +kernel⟩, rfl, .inl rfl⟩, ?_⟩
  exact told_gives2 (X := cxF P w K mg base .f_law cdv A outer s H E) (k := 4 * k) (fv := ⟨"program", "question", "run", "there", "other"⟩) (hr.mono (by omega)) rfl (Z.mg_ .f_law_read) (Z.keep .f_law_read) (Z.binds .f_law_read) (IH .f_law_read)
    spF_weak rfl Z.g_Tr rfl Z.g_BP rfl Z.g_BQ rfl Z.g_BR rfl Z.g_NT rfl Z.no_isinstance rfl (by decide +kernel) rfl (by decide) (by decide) (by decide) (by decide) (by decide) (by decide) (by decide) (by decide)
end Sh65
set_option Elab.async false
set_option linter.all false
set_option maxRecDepth 100000
set_option maxHeartbeats 4000000
namespace Sh65
open PySem PySem.Spec PyProof.Rows L2 Sh
section
variable {P : Program} {w : World} {K : PySem.W.Frag} {mg : Str → Option Value} {base : Heap} {T : List (Addr × Str)}
theorem sc_f_is_int : FnScope (locOf .f_is_int) (psOf .f_is_int) (defScope (stOf .f_is_int)) := ⟨rfl, rfl, rfl, by decide +kernel, rfl, by decide +kernel, by decide +kernel⟩
theorem nd_f_is_int : (locOf .f_is_int).Nodup := sc_f_is_int.nd
theorem ok_f_is_int (Z : Fx K mg base T) {k : Nat} {cs : Fn → Fd} (IH : ∀ f, OkF P w K mg base T Z (4 * k) cs f) : FnOk P w K mg base (L2.CX P w) (4 * k + 3 + 1) (adr K .f_is_int) (Z.fd .f_is_int) (psOf .f_is_int) (spF ⟨K, T, cadK K⟩ (psOf .f_is_int).length (denF (psOf .f_is_int).length (locOf .f_is_int).length (bdOf .f_is_int cs))) := by
  refine fn_bd Z .f_is_int sc_f_is_int fun cdv A outer s ρ0 H E hcd hr => ?_
  show CSs _ _ _ (b_f_is_int cs)
  unfold b_f_is_int
  exact (cs_one (cs_ret (ce_cmp op_isA p2_is (ce_callTy call_type1 pn_type rfl Z.no_type boot_type (ca_cons (ce_var (i := 0)) ca_nil)) (ce_ty (T := "int") rfl Z.no_int boot_int) rfl)))
theorem sc_f_digits : FnScope (locOf .f_digits) (psOf .f_digits) (defScope (stOf .f_digits)) := ⟨rfl, rfl, rfl, by decide +kernel, rfl, by decide +kernel, by decide +kernel⟩
theorem nd_f_digits : (locOf .f_digits).Nodup := sc_f_digits.nd
theorem ok_f_digits (Z : Fx K mg base T) {k : Nat} {cs : Fn → Fd} (IH : ∀ f, OkF P w K mg base T Z (4 * k) cs f) : FnOk P w K mg base (L2.CX P w) (4 * k + 3 + 1) (adr K .f_digits) (Z.fd .f_digits) (psOf .f_digits) (spF ⟨K, T, cadK K⟩ (psOf .f_digits).length (denF (psOf .f_digits).length (locOf .f_digits).length (bdOf .f_digits cs))) := by
  refine fn_bd Z .f_digits sc_f_digits fun cdv A outer s ρ0 H E hcd hr => ?_
  show CSs _ _ _ (b_f_digits cs)
  unfold b_f_digits
  exact (cs_cons (cs_set (i := 1) (ce_lst ca_nil) nd_f_digits)
  (cs_cons (cs_while (n := wN) (passes_of rfl) (ct_cmp op_ge p2_ge (ce_var (i := 0)) ce_int rfl) (cs_cons (cs_appOwn (i := 1) (ce_op op_addA p2_add (ce_op op_mod p2_mod (ce_var (i := 0)) ce_int) ce_int))
  (cs_one (cs_set (i := 0) (ce_op op_fdiv p2_div (ce_var (i := 0)) ce_int) nd_f_digits))))
  (cs_one (cs_ret (ce_op op_addA p2_add (ce_var (i := 1)) (ce_lst (ca_cons (ce_var (i := 0)) ca_nil)))))))
theorem sc_f_written : FnScope (locOf .f_written) (psOf .f_written) (defScope (stOf .f_written)) := ⟨rfl, rfl, rfl, by decide +kernel, rfl, by decide +kernel, by decide +kernel⟩
theorem nd_f_written : (locOf .f_written).Nodup := sc_f_written.nd
theorem ok_f_written (Z : Fx K mg base T) {k : Nat} {cs : Fn → Fd} (IH : ∀ f, OkF P w K mg base T Z (4 * k) cs f) : FnOk P w K mg base (L2.CX P w) (4 * k + 3 + 1) (adr K .f_written) (Z.fd .f_written) (psOf .f_written) (spF ⟨K, T, cadK K⟩ (psOf .f_written).length (denF (psOf .f_written).length (locOf .f_written).length (bdOf .f_written cs))) := by
  refine fn_bd Z .f_written sc_f_written fun cdv A outer s ρ0 H E hcd hr => ?_
  have tf := Z.tab_g .f_written (by simp)
  have gt : GTab (cxOf (L2.CX P w) P w K mg base (locOf .f_written) (nmOf .f_written) (defScope (stOf .f_written)) (adr K .f_written) cdv A outer s H E) T (Z.cT .f_written).1 (Z.cT .f_written).2 := ⟨tf.tb, hcd.symm.trans tf.code, tf.mem, tf.uniq⟩
  show CSs _ _ _ (b_f_written cs)
  unfold b_f_written
  exact (cs_cons (cs_if (ct_tru (ce_call (IH .f_is_int) (hr.mono (by omega)) rfl (Z.mg_ .f_is_int) (Z.keep .f_is_int) (Z.binds .f_is_int) (takes_of rfl rfl rfl rfl) (ca_cons (ce_var (i := 0)) ca_nil))) (cs_one (cs_ret (ce_op op_addA p2_add (ce_lst (ca_cons ce_int ca_nil)) (ce_call (IH .f_digits) (hr.mono (by omega)) rfl (Z.mg_ .f_digits) (Z.keep .f_digits) (Z.binds .f_digits) (takes_of rfl rfl rfl rfl) (ca_cons (ce_if (ct_cmp op_ge p2_ge (ce_var (i := 0)) ce_int rfl) (ce_op op_mulA p2_mul ce_int (ce_var (i := 0))) (ce_op op_sub p2_sub (ce_op op_mulA p2_mul (ce_un un_neg p1_neg ce_int) (ce_var (i := 0))) ce_int)) ca_nil))))) cs_nil)
  (cs_cons (cs_if (ct_cmp op_isA p2_is (ce_callTy call_type1 pn_type rfl Z.no_type boot_type (ca_cons (ce_var (i := 0)) ca_nil)) (ce_ty (T := "str") rfl Z.no_str boot_str) rfl) (cs_cons (cs_if (ct_tru (ce_any (own := [("sign", 1)]) (ts := [1]) hr rfl nd_f_written (gsc_by (by show gscB (locOf .f_written) (defScope (stOf .f_written)) _ _ = true; decide +kernel)) gt (ci_E (ce_var (i := 0))) (fun _ _ _ _ _ _ _ => (cg_name (i := 1) nd_f_written)) (fun _ _ _ _ _ _ _ => cts_nil) (fun _ _ _ _ _ _ _ => (ce_cmp (op_notInA (hu_of (room_gen hr))) p2_notIn (ce_var (i := 1)) (ce_glob (v := .str k_SIGNS) (d := .str k_SIGNS) rfl Z.g_SIGNS ⟨_, rfl⟩ (fun _ _ => .str _)) rfl)) (by decide) (fun _ => rfl) rfl Z.no_any)) (cs_one (cs_raise rfl (takes_of rfl rfl rfl rfl) (exc_at Z.x_BadRun) rfl (ca_cons ce_str ca_nil))) cs_nil)
  (cs_one (cs_ret (ce_op op_addA p2_add (ce_op op_addA p2_add (ce_lst (ca_cons ce_int ca_nil)) (ce_call (IH .f_digits) (hr.mono (by omega)) rfl (Z.mg_ .f_digits) (Z.keep .f_digits) (Z.binds .f_digits) (takes_of rfl rfl rfl rfl) (ca_cons (ce_callB call_lenA pn_len rfl Z.no_len boot_len (ca_cons (ce_var (i := 0)) ca_nil)) ca_nil))) (ce_lc (own := [("sign", 1)]) (ts := [1]) rfl nd_f_written (blkOk_by (by show blkC (locOf .f_written) (defScope (stOf .f_written)) _ _ = true; decide +kernel)) (ci_E (ce_var (i := 0))) (fun _ _ _ _ _ => (cg_name (i := 1) nd_f_written)) (fun _ _ _ _ _ => cts_nil) (fun _ _ _ _ _ => (ce_m1 PySem.F.slot_str_index PySem.F.type_str_index mt_sindex m_sindex (ce_glob (v := .str k_SIGNS) (d := .str k_SIGNS) rfl Z.g_SIGNS ⟨_, rfl⟩ (fun _ _ => .str _)) (ce_var (i := 1)))) (by decide)))))) cs_nil)
  (cs_cons (cs_if (ct_cmp op_isNotA p2_isNot (ce_callTy call_type1 pn_type rfl Z.no_type boot_type (ca_cons (ce_var (i := 0)) ca_nil)) (ce_ty (T := "tuple") rfl Z.no_tuple boot_tuple) rfl) (cs_one (cs_raise rfl (takes_of rfl rfl rfl rfl) (exc_at Z.x_BadRun) rfl (ca_cons ce_str ca_nil))) cs_nil)
  (cs_cons (cs_set (i := 2) (ce_op op_addA p2_add (ce_lst (ca_cons ce_int ca_nil)) (ce_call (IH .f_digits) (hr.mono (by omega)) rfl (Z.mg_ .f_digits) (Z.keep .f_digits) (Z.binds .f_digits) (takes_of rfl rfl rfl rfl) (ca_cons (ce_callB call_lenA pn_len rfl Z.no_len boot_len (ca_cons (ce_var (i := 0)) ca_nil)) ca_nil))) nd_f_written)
  (cs_cons (cs_for (passes_of rfl) rfl (ci_V (i := 0)) (cg_name (i := 3) nd_f_written) (cs_one (cs_ext (i := 2) (ce_call (IH .f_written) (hr.mono (by omega)) rfl (Z.mg_ .f_written) (Z.keep .f_written) (Z.binds .f_written) (takes_of rfl rfl rfl rfl) (ca_cons (ce_var (i := 3)) ca_nil)) nd_f_written)))
  (cs_one (cs_retV (i := 2))))))))
theorem sc_f_sums : FnScope (locOf .f_sums) (psOf .f_sums) (defScope (stOf .f_sums)) := ⟨rfl, rfl, rfl, by decide +kernel, rfl, by decide +kernel, by decide +kernel⟩
theorem nd_f_sums : (locOf .f_sums).Nodup := sc_f_sums.nd
theorem ok_f_sums (Z : Fx K mg base T) {k : Nat} {cs : Fn → Fd} (IH : ∀ f, OkF P w K mg base T Z (4 * k) cs f) : FnOk P w K mg base (L2.CX P w) (4 * k + 3 + 1) (adr K .f_sums) (Z.fd .f_sums) (psOf .f_sums) (spF ⟨K, T, cadK K⟩ (psOf .f_sums).length (denF (psOf .f_sums).length (locOf .f_sums).length (bdOf .f_sums cs))) := by
  refine fn_bd Z .f_sums sc_f_sums fun cdv A outer s ρ0 H E hcd hr => ?_
  show CSs _ _ _ (b_f_sums cs)
  unfold b_f_sums
  exact (cs_cons (cs_asg2 ce_int (cg_name (i := 1) nd_f_sums) (cg_name (i := 2) nd_f_sums))
  (cs_cons (cs_for (passes_of rfl) rfl (ci_revEn rfl Z.no_reversed rfl Z.no_enumerate (csrc_V (i := 0))) (cg_tup rfl (cgs_cons (cg_name (i := 3) nd_f_sums) (cgs_cons (cg_name (i := 4) nd_f_sums) (cgs_nil (ts := []))))) (cs_cons (cs_aug (i := 1) iop_addA pi_add (ce_var (i := 4)) nd_f_sums)
  (cs_one (cs_aug (i := 2) iop_addA pi_add (ce_op op_mulA p2_mul (ce_op op_addA p2_add (ce_var (i := 3)) ce_int) (ce_var (i := 4))) nd_f_sums))))
  (cs_one (cs_ret (ce_lst (ca_cons (ce_op op_mod p2_mod (ce_var (i := 1)) ce_int) (ca_cons (ce_op op_mod p2_mod (ce_var (i := 2)) ce_int) ca_nil)))))))
theorem sc_f_sent : FnScope (locOf .f_sent) (psOf .f_sent) (defScope (stOf .f_sent)) := ⟨rfl, rfl, rfl, by decide +kernel, rfl, by decide +kernel, by decide +kernel⟩
theorem nd_f_sent : (locOf .f_sent).Nodup := sc_f_sent.nd
theorem ok_f_sent (Z : Fx K mg base T) {k : Nat} {cs : Fn → Fd} (IH : ∀ f, OkF P w K mg base T Z (4 * k) cs f) : FnOk P w K mg base (L2.CX P w) (4 * k + 3 + 1) (adr K .f_sent) (Z.fd .f_sent) (psOf .f_sent) (spF ⟨K, T, cadK K⟩ (psOf .f_sent).length (denF (psOf .f_sent).length (locOf .f_sent).length (bdOf .f_sent cs))) := by
  refine fn_bd Z .f_sent sc_f_sent fun cdv A outer s ρ0 H E hcd hr => ?_
  show CSs _ _ _ (b_f_sent cs)
  unfold b_f_sent
  exact (cs_cons (cs_set (i := 1) (ce_call (IH .f_written) (hr.mono (by omega)) rfl (Z.mg_ .f_written) (Z.keep .f_written) (Z.binds .f_written) (takes_of rfl rfl rfl rfl) (ca_cons (ce_var (i := 0)) ca_nil)) nd_f_sent)
  (cs_one (cs_ret (ce_callTy call_tuple_of pn_tuple rfl Z.no_tuple boot_tuple (ca_cons (ce_op op_addA p2_add (ce_var (i := 1)) (ce_call (IH .f_sums) (hr.mono (by omega)) rfl (Z.mg_ .f_sums) (Z.keep .f_sums) (Z.binds .f_sums) (takes_of rfl rfl rfl rfl) (ca_cons (ce_var (i := 1)) ca_nil))) ca_nil)))))
theorem sc_f_number_at : FnScope (locOf .f_number_at) (psOf .f_number_at) (defScope (stOf .f_number_at)) := ⟨rfl, rfl, rfl, by decide +kernel, rfl, by decide +kernel, by decide +kernel⟩
theorem nd_f_number_at : (locOf .f_number_at).Nodup := sc_f_number_at.nd
theorem ok_f_number_at (Z : Fx K mg base T) {k : Nat} {cs : Fn → Fd} (IH : ∀ f, OkF P w K mg base T Z (4 * k) cs f) : FnOk P w K mg base (L2.CX P w) (4 * k + 3 + 1) (adr K .f_number_at) (Z.fd .f_number_at) (psOf .f_number_at) (spF ⟨K, T, cadK K⟩ (psOf .f_number_at).length (denF (psOf .f_number_at).length (locOf .f_number_at).length (bdOf .f_number_at cs))) := by
  refine fn_bd Z .f_number_at sc_f_number_at fun cdv A outer s ρ0 H E hcd hr => ?_
  show CSs _ _ _ (b_f_number_at cs)
  unfold b_f_number_at
  exact (cs_cons (cs_par3 (i := 2) (j := 3) (l := 4) rfl nd_f_number_at rfl rfl rfl (by decide) (by decide) (by decide) rfl rfl rfl (ca_cons ce_int (ca_cons ce_int (ca_cons (ce_var (i := 1)) ca_nil))) rfl)
  (cs_cons (cs_while (n := wN) (passes_of rfl) (ct_tru ce_bl) (cs_cons (cs_if (ct_cmp op_ge p2_ge (ce_var (i := 1)) (ce_callB call_lenA pn_len rfl Z.no_len boot_len (ca_cons (ce_var (i := 0)) ca_nil)) rfl) (cs_one (cs_raise0 rfl (takes_of rfl rfl rfl rfl) (exc_at Z.x_Wrong) rfl)) cs_nil)
  (cs_cons (cs_aug (i := 2) iop_addA pi_add (ce_op op_mulA p2_mul (ce_var (i := 3)) (ce_op op_mod p2_mod (ce_ix (ix_any (hu_of hr)) p2_ix (ce_var (i := 0)) (ce_var (i := 1))) ce_int)) nd_f_number_at)
  (cs_cons (cs_set (i := 3) (ce_op op_mulA p2_mul (ce_var (i := 3)) ce_int) nd_f_number_at)
  (cs_cons (cs_aug (i := 1) iop_addA pi_add ce_int nd_f_number_at)
  (cs_one (cs_if (ct_cmp op_lt p2_lt (ce_ix (ix_any (hu_of hr)) p2_ix (ce_var (i := 0)) (ce_op op_sub p2_sub (ce_var (i := 1)) ce_int)) ce_int rfl) (cs_one cs_break) cs_nil)))))))
  (cs_cons (cs_if (PW.pt (ct_and (ct_cmp (op_eqD (hu64 hr)) p2_eq (ce_ix (ix_any (hu_of hr)) p2_ix (ce_var (i := 0)) (ce_op op_sub p2_sub (ce_var (i := 1)) ce_int)) ce_int rfl) (pw_and1 (ct_cmp op_gt p2_gt (ce_op op_sub p2_sub (ce_var (i := 1)) (ce_var (i := 4))) ce_int rfl)))) (cs_one (cs_raise0 rfl (takes_of rfl rfl rfl rfl) (exc_at Z.x_Wrong) rfl)) cs_nil)
  (cs_one (cs_ret (ce_tup (ca_cons (ce_var (i := 2)) (ca_cons (ce_var (i := 1)) ca_nil))))))))
theorem sc_f_thing_at : FnScope (locOf .f_thing_at) (psOf .f_thing_at) (defScope (stOf .f_thing_at)) := ⟨rfl, rfl, rfl, by decide +kernel, rfl, by decide +kernel, by decide +kernel⟩
theorem nd_f_thing_at : (locOf .f_thing_at).Nodup := sc_f_thing_at.nd
theorem ok_f_thing_at (Z : Fx K mg base T) {k : Nat} {cs : Fn → Fd} (IH : ∀ f, OkF P w K mg base T Z (4 * k) cs f) : FnOk P w K mg base (L2.CX P w) (4 * k + 3 + 1) (adr K .f_thing_at) (Z.fd .f_thing_at) (psOf .f_thing_at) (spF ⟨K, T, cadK K⟩ (psOf .f_thing_at).length (denF (psOf .f_thing_at).length (locOf .f_thing_at).length (bdOf .f_thing_at cs))) := by
  refine fn_bd Z .f_thing_at sc_f_thing_at fun cdv A outer s ρ0 H E hcd hr => ?_
  have tf := Z.tab_g .f_thing_at (by simp)
  have gt : GTab (cxOf (L2.CX P w) P w K mg base (locOf .f_thing_at) (nmOf .f_thing_at) (defScope (stOf .f_thing_at)) (adr K .f_thing_at) cdv A outer s H E) T (Z.cT .f_thing_at).1 (Z.cT .f_thing_at).2 := ⟨tf.tb, hcd.symm.trans tf.code, tf.mem, tf.uniq⟩
  show CSs _ _ _ (b_f_thing_at cs)
  unfold b_f_thing_at
  exact (cs_cons (cs_if (PW.pt (ct_or (ct_cmp op_ge p2_ge (ce_var (i := 1)) (ce_callB call_lenA pn_len rfl Z.no_len boot_len (ca_cons (ce_var (i := 0)) ca_nil)) rfl) (pw_or1 (ct_cmp (op_notInA (hu_of hr)) p2_notIn (ce_ix (ix_any (hu_of hr)) p2_ix (ce_var (i := 0)) (ce_var (i := 1))) (ce_tup (ca_cons ce_int (ca_cons ce_int (ca_cons ce_int ca_nil)))) rfl)))) (cs_one (cs_raise0 rfl (takes_of rfl rfl rfl rfl) (exc_at Z.x_Wrong) rfl)) cs_nil)
  (cs_cons (cs_set (i := 2) (ce_ix (ix_any (hu_of hr)) p2_ix (ce_var (i := 0)) (ce_var (i := 1))) nd_f_thing_at)
  (cs_cons (cs_asg (ce_call (IH .f_number_at) (hr.mono (by omega)) rfl (Z.mg_ .f_number_at) (Z.keep .f_number_at) (Z.binds .f_number_at) (takes_of rfl rfl rfl rfl) (ca_cons (ce_var (i := 0)) (ca_cons (ce_op op_addA p2_add (ce_var (i := 1)) ce_int) ca_nil))) (cg_tup rfl (cgs_cons (cg_name (i := 3) nd_f_thing_at) (cgs_cons (cg_name (i := 1) nd_f_thing_at) (cgs_nil (ts := []))))))
  (cs_cons (cs_if (ct_cmp (op_eqD (hu64 hr)) p2_eq (ce_var (i := 2)) ce_int rfl) (cs_one (cs_ret (ce_tup (ca_cons (ce_if (ct_cmp (op_eqD (hu64 hr)) p2_eq (ce_op op_mod p2_mod (ce_var (i := 3)) ce_int) ce_int rfl) (ce_op op_fdiv p2_div (ce_var (i := 3)) ce_int) (ce_op op_fdiv p2_div (ce_un un_neg p1_neg (ce_op op_addA p2_add (ce_var (i := 3)) ce_int)) ce_int)) (ca_cons (ce_var (i := 1)) ca_nil))))) cs_nil)
  (cs_cons (cs_if (ct_cmp op_gt p2_gt (ce_var (i := 3)) (ce_op op_sub p2_sub (ce_callB call_lenA pn_len rfl Z.no_len boot_len (ca_cons (ce_var (i := 0)) ca_nil)) (ce_var (i := 1))) rfl) (cs_one (cs_raise0 rfl (takes_of rfl rfl rfl rfl) (exc_at Z.x_Wrong) rfl)) cs_nil)
  (cs_cons (cs_if (ct_cmp (op_eqD (hu64 hr)) p2_eq (ce_var (i := 2)) ce_int rfl) (cs_cons (cs_if (ct_tru (ce_any (own := [("sign", 4)]) (ts := [4]) hr rfl nd_f_thing_at (gsc_by (by show gscB (locOf .f_thing_at) (defScope (stOf .f_thing_at)) _ _ = true; decide +kernel)) gt (ci_E (ce_slice (ce_var (i := 0)) (co_some (ce_var (i := 1))) (co_some (ce_op op_addA p2_add (ce_var (i := 1)) (ce_var (i := 3)))))) (fun _ _ _ _ _ _ _ => (cg_name (i := 4) nd_f_thing_at)) (fun _ _ _ _ _ _ _ => cts_nil) (fun _ _ _ _ _ _ _ => (ce_cmp op_ge p2_ge (ce_var (i := 4)) (ce_callB call_lenA pn_len rfl Z.no_len boot_len (ca_cons (ce_glob (v := .str k_SIGNS) (d := .str k_SIGNS) rfl Z.g_SIGNS ⟨_, rfl⟩ (fun _ _ => .str _)) ca_nil)) rfl)) (by decide) (fun _ => rfl) rfl Z.no_any)) (cs_one (cs_raise0 rfl (takes_of rfl rfl rfl rfl) (exc_at Z.x_Wrong) rfl)) cs_nil)
  (cs_one (cs_ret (ce_tup (ca_cons (ce_m1 PySem.F.slot_str_join PySem.F.type_str_join mt_join m_join ce_str (ce_lc (own := [("sign", 4)]) (ts := [4]) rfl nd_f_thing_at (blkOk_by (by show blkC (locOf .f_thing_at) (defScope (stOf .f_thing_at)) _ _ = true; decide +kernel)) (ci_E (ce_slice (ce_var (i := 0)) (co_some (ce_var (i := 1))) (co_some (ce_op op_addA p2_add (ce_var (i := 1)) (ce_var (i := 3)))))) (fun _ _ _ _ _ => (cg_name (i := 4) nd_f_thing_at)) (fun _ _ _ _ _ => cts_nil) (fun _ _ _ _ _ => (ce_ix (ix_any (hu_of hr)) p2_ix (ce_glob (v := .str k_SIGNS) (d := .str k_SIGNS) rfl Z.g_SIGNS ⟨_, rfl⟩ (fun _ _ => .str _)) (ce_var (i := 4)))) (by decide))) (ca_cons (ce_op op_addA p2_add (ce_var (i := 1)) (ce_var (i := 3))) ca_nil)))))) cs_nil)
  (cs_cons (cs_set (i := 5) (ce_tup ca_nil) nd_f_thing_at)
  (cs_cons (cs_for (passes_of rfl) rfl (ci_range1 (fz := fzS _) rfl Z.no_range (ce_var (i := 3))) (cg_name (i := 6) nd_f_thing_at) (cs_cons (cs_asg (ce_call (IH .f_thing_at) (hr.mono (by omega)) rfl (Z.mg_ .f_thing_at) (Z.keep .f_thing_at) (Z.binds .f_thing_at) (takes_of rfl rfl rfl rfl) (ca_cons (ce_var (i := 0)) (ca_cons (ce_var (i := 1)) ca_nil))) (cg_tup rfl (cgs_cons (cg_name (i := 7) nd_f_thing_at) (cgs_cons (cg_name (i := 1) nd_f_thing_at) (cgs_nil (ts := []))))))
  (cs_one (cs_aug (i := 5) iop_catA pi_cat (ce_tup (ca_cons (ce_var (i := 7)) ca_nil)) nd_f_thing_at))))
  (cs_one (cs_ret (ce_tup (ca_cons (ce_var (i := 5)) (ca_cons (ce_var (i := 1)) ca_nil)))))))))))))
theorem sc_f_received : FnScope (locOf .f_received) (psOf .f_received) (defScope (stOf .f_received)) := ⟨rfl, rfl, rfl, by decide +kernel, rfl, by decide +kernel, by decide +kernel⟩
theorem nd_f_received : (locOf .f_received).Nodup := sc_f_received.nd
theorem ok_f_received (Z : Fx K mg base T) {k : Nat} {cs : Fn → Fd} (IH : ∀ f, OkF P w K mg base T Z (4 * k) cs f) : FnOk P w K mg base (L2.CX P w) (4 * k + 3 + 1) (adr K .f_received) (Z.fd .f_received) (psOf .f_received) (spF ⟨K, T, cadK K⟩ (psOf .f_received).length (denF (psOf .f_received).length (locOf .f_received).length (bdOf .f_received cs))) := by
  refine fn_bd Z .f_received sc_f_received fun cdv A outer s ρ0 H E hcd hr => ?_
  have tf := Z.tab_g .f_received (by simp)
  have gt : GTab (cxOf (L2.CX P w) P w K mg base (locOf .f_received) (nmOf .f_received) (defScope (stOf .f_received)) (adr K .f_received) cdv A outer s H E) T (Z.cT .f_received).1 (Z.cT .f_received).2 := ⟨tf.tb, hcd.symm.trans tf.code, tf.mem, tf.uniq⟩
  show CSs _ _ _ (b_f_received cs)
  unfold b_f_received
  exact (cs_cons (cs_if (PW.pt (ct_or (ct_cmp op_isNotA p2_isNot (ce_callTy call_type1 pn_type rfl Z.no_type boot_type (ca_cons (ce_var (i := 0)) ca_nil)) (ce_ty (T := "tuple") rfl Z.no_tuple boot_tuple) rfl) (ct_or (ct_cmp op_lt p2_lt (ce_callB call_lenA pn_len rfl Z.no_len boot_len (ca_cons (ce_var (i := 0)) ca_nil)) ce_int rfl) (pw_or1 (ct_not (ct_tru (ce_all (own := [("k", 1)]) (ts := [1]) hr rfl nd_f_received (gsc_by (by show gscB (locOf .f_received) (defScope (stOf .f_received)) _ _ = true; decide +kernel)) gt (ci_E (ce_var (i := 0))) (fun _ _ _ _ _ _ _ => (cg_name (i := 1) nd_f_received)) (fun _ _ _ _ _ _ _ => cts_nil) (fun _ _ _ _ _ _ _ => (ce_and (ce_call (IH .f_is_int) ((room_gen hr).mono (by omega)) rfl (Z.mg_ .f_is_int) (Z.keep .f_is_int) (Z.binds .f_is_int) LamX.takes0 (ca_cons (ce_var (i := 1)) ca_nil)) (ce_and1 (ce_chain op_le op_le p2_le p2_le ce_int (ce_var (i := 1)) ce_int)))) (by decide) (fun _ => rfl) rfl Z.no_all))))))) (cs_one (cs_ret (ce_tup (ca_cons ce_str ca_nil)))) cs_nil)
  (cs_cons (cs_if (ct_cmp (op_neD (hu64 hr)) p2_ne (ce_callTy call_list_of pn_list rfl Z.no_list boot_list (ca_cons (ce_slice (ce_var (i := 0)) (co_some (ce_un un_neg p1_neg ce_int)) co_none) ca_nil)) (ce_call (IH .f_sums) (hr.mono (by omega)) rfl (Z.mg_ .f_sums) (Z.keep .f_sums) (Z.binds .f_sums) (takes_of rfl rfl rfl rfl) (ca_cons (ce_slice (ce_var (i := 0)) co_none (co_some (ce_un un_neg p1_neg ce_int))) ca_nil)) rfl) (cs_one (cs_ret (ce_tup (ca_cons ce_str ca_nil)))) cs_nil)
  (cs_cons (cs_try_only rfl rfl ⟨rfl, by decide, .inl Z.x_Wrong.g⟩ (takes_of rfl rfl rfl rfl) Z.m_Wrong (fun W pn xe tk hpo => (cs_one (cs_asg (ce_call (IH .f_thing_at) (hr.mono (by omega)) rfl (Z.mg_ .f_thing_at) (Z.keep .f_thing_at) (Z.binds .f_thing_at) tk (ca_cons (ce_slice (ce_var (i := 0)) co_none (co_some (ce_un un_neg p1_neg ce_int))) (ca_cons ce_int ca_nil))) (cg_tup rfl (cgs_cons (cg_name (i := 2) nd_f_received) (cgs_cons (cg_name (i := 3) nd_f_received) (cgs_nil (ts := [])))))))) (fun a pn => (cs_one (cs_ret (ce_tup (ca_cons ce_str ca_nil))))))
  (cs_one (cs_ret (ce_if (ct_cmp (op_eqD (hu64 hr)) p2_eq (ce_var (i := 3)) (ce_op op_sub p2_sub (ce_callB call_lenA pn_len rfl Z.no_len boot_len (ca_cons (ce_var (i := 0)) ca_nil)) ce_int) rfl) (ce_tup (ca_cons ce_str (ca_cons (ce_var (i := 2)) ca_nil))) (ce_tup (ca_cons ce_str ca_nil))))))))
theorem sc_f_law_cell : FnScope (locOf .f_law_cell) (psOf .f_law_cell) (defScope (stOf .f_law_cell)) := ⟨rfl, rfl, rfl, by decide +kernel, rfl, by decide +kernel, by decide +kernel⟩
theorem nd_f_law_cell : (locOf .f_law_cell).Nodup := sc_f_law_cell.nd
theorem ok_f_law_cell (Z : Fx K mg base T) {k : Nat} {cs : Fn → Fd} (IH : ∀ f, OkF P w K mg base T Z (4 * k) cs f) : FnOk P w K mg base (L2.CX P w) (4 * k + 3 + 1) (adr K .f_law_cell) (Z.fd .f_law_cell) (psOf .f_law_cell) (spF ⟨K, T, cadK K⟩ (psOf .f_law_cell).length (denF (psOf .f_law_cell).length (locOf .f_law_cell).length (bdOf .f_law_cell cs))) := by
  refine fn_bd Z .f_law_cell sc_f_law_cell fun cdv A outer s ρ0 H E hcd hr => ?_
  show CSs _ _ _ (b_f_law_cell cs)
  unfold b_f_law_cell
  exact (cs_one (cs_ret (ce_if (ct_cmp op_lt p2_lt (ce_var (i := 1)) (ce_callB call_lenA pn_len rfl Z.no_len boot_len (ca_cons (ce_var (i := 0)) ca_nil)) rfl) (ce_callTy call_int1 pn_int rfl Z.no_int boot_int (ca_cons (ce_ix (ix_any (hu_of hr)) p2_ix (ce_var (i := 0)) (ce_var (i := 1))) ca_nil)) ce_int)))
theorem sc_f_law_stream : FnScope (locOf .f_law_stream) (psOf .f_law_stream) (defScope (stOf .f_law_stream)) := ⟨rfl, rfl, rfl, by decide +kernel, rfl, by decide +kernel, by decide +kernel⟩
theorem nd_f_law_stream : (locOf .f_law_stream).Nodup := sc_f_law_stream.nd
theorem ok_f_law_stream (Z : Fx K mg base T) {k : Nat} {cs : Fn → Fd} (IH : ∀ f, OkF P w K mg base T Z (4 * k) cs f) : FnOk P w K mg base (L2.CX P w) (4 * k + 3 + 1) (adr K .f_law_stream) (Z.fd .f_law_stream) (psOf .f_law_stream) (spF ⟨K, T, cadK K⟩ (psOf .f_law_stream).length (denF (psOf .f_law_stream).length (locOf .f_law_stream).length (bdOf .f_law_stream cs))) := by
  refine fn_bd Z .f_law_stream sc_f_law_stream fun cdv A outer s ρ0 H E hcd hr => ?_
  show CSs _ _ _ (b_f_law_stream cs)
  unfold b_f_law_stream
  exact (cs_one (cs_ret (ce_lst (ca_cons (ce_callB call_abs pn_abs rfl Z.no_abs boot_abs (ca_cons (ce_call (IH .f_law_cell) (hr.mono (by omega)) rfl (Z.mg_ .f_law_cell) (Z.keep .f_law_cell) (Z.binds .f_law_cell) (takes_of rfl rfl rfl rfl) (ca_cons (ce_var (i := 0)) (ca_cons (ce_var (i := 1)) ca_nil))) ca_nil)) (ca_cons (ce_op op_addA p2_add (ce_op op_mod p2_mod (ce_callB call_abs pn_abs rfl Z.no_abs boot_abs (ca_cons (ce_call (IH .f_law_cell) (hr.mono (by omega)) rfl (Z.mg_ .f_law_cell) (Z.keep .f_law_cell) (Z.binds .f_law_cell) (takes_of rfl rfl rfl rfl) (ca_cons (ce_var (i := 0)) (ca_cons (ce_var (i := 1)) ca_nil))) ca_nil)) ce_int) ce_int) ca_nil)))))
theorem sc_f_law_draw : FnScope (locOf .f_law_draw) (psOf .f_law_draw) (defScope (stOf .f_law_draw)) := ⟨rfl, rfl, rfl, by decide +kernel, rfl, by decide +kernel, by decide +kernel⟩
theorem nd_f_law_draw : (locOf .f_law_draw).Nodup := sc_f_law_draw.nd
theorem ok_f_law_draw (Z : Fx K mg base T) {k : Nat} {cs : Fn → Fd} (IH : ∀ f, OkF P w K mg base T Z (4 * k) cs f) : FnOk P w K mg base (L2.CX P w) (4 * k + 3 + 1) (adr K .f_law_draw) (Z.fd .f_law_draw) (psOf .f_law_draw) (spF ⟨K, T, cadK K⟩ (psOf .f_law_draw).length (denF (psOf .f_law_draw).length (locOf .f_law_draw).length (bdOf .f_law_draw cs))) := by
  refine fn_bd Z .f_law_draw sc_f_law_draw fun cdv A outer s ρ0 H E hcd hr => ?_
  show CSs _ _ _ (b_f_law_draw cs)
  unfold b_f_law_draw
  exact (cs_cons (cs_if (ct_cmp op_gt p2_gt (ce_ix (ix_any (hu_of hr)) p2_ix (ce_var (i := 0)) ce_int) ce_int rfl) (cs_cons (cs_set (i := 2) (ce_op op_mod p2_mod (ce_ix (ix_any (hu_of hr)) p2_ix (ce_var (i := 0)) ce_int) (ce_var (i := 1))) nd_f_law_draw)
  (cs_cons (cs_setIx (ce_var (i := 0)) ce_int (ce_op op_fdiv p2_div (ce_ix (ix_any (hu_of hr)) p2_ix (ce_var (i := 0)) ce_int) (ce_var (i := 1))) (hu_of hr))
  (cs_one (cs_ret (ce_callTy call_int1 pn_int rfl Z.no_int boot_int (ca_cons (ce_var (i := 2)) ca_nil)))))) cs_nil)
  (cs_cons (cs_setIx (ce_var (i := 0)) ce_int (ce_op op_mod p2_mod (ce_callTy call_int1 pn_int rfl Z.no_int boot_int (ca_cons (ce_op op_addA p2_add (ce_op op_mulA p2_mul (ce_ix (ix_any (hu_of hr)) p2_ix (ce_var (i := 0)) ce_int) ce_int) ce_int) ca_nil)) ce_int) (hu_of hr))
  (cs_one (cs_ret (ce_op op_mod p2_mod (ce_callTy call_int1 pn_int rfl Z.no_int boot_int (ca_cons (ce_op op_fdiv p2_div (ce_ix (ix_any (hu_of hr)) p2_ix (ce_var (i := 0)) ce_int) ce_int) ca_nil)) (ce_var (i := 1)))))))
theorem sc_f_law_read : FnScope (locOf .f_law_read) (psOf .f_law_read) (defScope (stOf .f_law_read)) := ⟨rfl, rfl, rfl, by decide +kernel, rfl, by decide +kernel, by decide +kernel⟩
theorem nd_f_law_read : (locOf .f_law_read).Nodup := sc_f_law_read.nd
theorem ok_f_law_read (Z : Fx K mg base T) {k : Nat} {cs : Fn → Fd} (IH : ∀ f, OkF P w K mg base T Z (4 * k) cs f) : FnOk P w K mg base (L2.CX P w) (4 * k + 3 + 1) (adr K .f_law_read) (Z.fd .f_law_read) (psOf .f_law_read) (spF ⟨K, T, cadK K⟩ (psOf .f_law_read).length (denF (psOf .f_law_read).length (locOf .f_law_read).length (bdOf .f_law_read cs))) := by
  refine fn_bd Z .f_law_read sc_f_law_read fun cdv A outer s ρ0 H E hcd hr => ?_
  show CSs _ _ _ (b_f_law_read cs)
  unfold b_f_law_read
  exact (cs_cons (cs_if (PW.pt (ct_or (ct_cmp op_isA p2_is (ce_var (i := 0)) ce_non rfl) (ct_or (ct_cmp op_isA p2_is (ce_var (i := 0)) ce_bl rfl) (pw_or1 (ct_cmp op_isA p2_is (ce_var (i := 0)) ce_bl rfl))))) (cs_one (cs_retV (i := 0))) cs_nil)
  (cs_cons (cs_if (ct_tru (ce_callB call_isi pn_isi rfl Z.no_isinstance boot_isinstance (ca_cons (ce_var (i := 0)) (ca_cons (ce_ty (T := "int") rfl Z.no_int boot_int) ca_nil)))) (cs_one (cs_ret (ce_callTy call_int1 pn_int rfl Z.no_int boot_int (ca_cons (ce_var (i := 0)) ca_nil)))) cs_nil)
  (cs_cons (cs_if (ct_tru (ce_callB call_isi pn_isi rfl Z.no_isinstance boot_isinstance (ca_cons (ce_var (i := 0)) (ca_cons (ce_ty (T := "str") rfl Z.no_str boot_str) ca_nil)))) (cs_one (cs_ret (ce_op op_addA p2_add ce_str (ce_var (i := 0))))) cs_nil)
  (cs_cons (cs_if (ct_tru (ce_callB call_isi pn_isi rfl Z.no_isinstance boot_isinstance (ca_cons (ce_var (i := 0)) (ca_cons (ce_ty (T := "tuple") rfl Z.no_tuple boot_tuple) ca_nil)))) (cs_one (cs_ret (ce_callTy call_tuple_of pn_tuple rfl Z.no_tuple boot_tuple (ca_cons (ce_lc (own := [("part", 1)]) (ts := [1]) rfl nd_f_law_read (blkOk_by (by show blkC (locOf .f_law_read) (defScope (stOf .f_law_read)) _ _ = true; decide +kernel)) (ci_E (ce_var (i := 0))) (fun _ _ _ _ _ => (cg_name (i := 1) nd_f_law_read)) (fun _ _ _ _ _ => cts_nil) (fun _ _ _ _ _ => (ce_call (IH .f_law_read) (hr.mono (by omega)) rfl (Z.mg_ .f_law_read) (Z.keep .f_law_read) (Z.binds .f_law_read) LamX.takes0 (ca_cons (ce_var (i := 1)) ca_nil))) (by decide)) ca_nil)))) cs_nil)
  (cs_one (cs_ret ce_str))))))
theorem sc_f_law_thing : FnScope (locOf .f_law_thing) (psOf .f_law_thing) (defScope (stOf .f_law_thing)) := ⟨rfl, rfl, rfl, by decide +kernel, rfl, by decide +kernel, by decide +kernel⟩
theorem nd_f_law_thing : (locOf .f_law_thing).Nodup := sc_f_law_thing.nd
theorem ok_f_law_thing (Z : Fx K mg base T) {k : Nat} {cs : Fn → Fd} (IH : ∀ f, OkF P w K mg base T Z (4 * k) cs f) : FnOk P w K mg base (L2.CX P w) (4 * k + 3 + 1) (adr K .f_law_thing) (Z.fd .f_law_thing) (psOf .f_law_thing) (spF ⟨K, T, cadK K⟩ (psOf .f_law_thing).length (denF (psOf .f_law_thing).length (locOf .f_law_thing).length (bdOf .f_law_thing cs))) := by
  refine fn_bd Z .f_law_thing sc_f_law_thing fun cdv A outer s ρ0 H E hcd hr => ?_
  show CSs _ _ _ (b_f_law_thing cs)
  unfold b_f_law_thing
  exact (cs_cons (cs_set (i := 2) (ce_call (IH .f_law_draw) (hr.mono (by omega)) rfl (Z.mg_ .f_law_draw) (Z.keep .f_law_draw) (Z.binds .f_law_draw) (takes_of rfl rfl rfl rfl) (ca_cons (ce_var (i := 0)) (ca_cons ce_int ca_nil))) nd_f_law_thing)
  (cs_cons (cs_if (PW.pt (ct_and (ct_cmp op_gt p2_gt (ce_var (i := 1)) ce_int rfl) (pw_and1 (ct_cmp op_lt p2_lt (ce_var (i := 2)) ce_int rfl)))) (cs_one (cs_ret (ce_callTy call_tuple_of pn_tuple rfl Z.no_tuple boot_tuple (ca_cons (ce_lc (own := [("k", 3)]) (ts := [3]) rfl nd_f_law_thing (blkOk_by (by show blkC (locOf .f_law_thing) (defScope (stOf .f_law_thing)) _ _ = true; decide +kernel)) (ci_range1 (fz := fzE) rfl Z.no_range (ce_call (IH .f_law_draw) (hr.mono (by omega)) rfl (Z.mg_ .f_law_draw) (Z.keep .f_law_draw) (Z.binds .f_law_draw) (takes_of rfl rfl rfl rfl) (ca_cons (ce_var (i := 0)) (ca_cons ce_int ca_nil)))) (fun _ _ _ _ _ => (cg_name (i := 3) nd_f_law_thing)) (fun _ _ _ _ _ => cts_nil) (fun _ _ _ _ _ => (ce_call (IH .f_law_thing) (hr.mono (by omega)) rfl (Z.mg_ .f_law_thing) (Z.keep .f_law_thing) (Z.binds .f_law_thing) LamX.takes0 (ca_cons (ce_var (i := 0)) (ca_cons (ce_op op_sub p2_sub (ce_var (i := 1)) ce_int) ca_nil)))) (by decide)) ca_nil)))) cs_nil)
  (cs_cons (cs_if (ct_cmp (op_eqD (hu64 hr)) p2_eq (ce_var (i := 2)) ce_int rfl) (cs_cons (cs_set (i := 4) ce_str nd_f_law_thing)
  (cs_cons (cs_for (passes_of rfl) rfl (ci_range1 (fz := fzS _) rfl Z.no_range (ce_if (ct_cmp op_gt p2_gt (ce_call (IH .f_law_draw) (hr.mono (by omega)) rfl (Z.mg_ .f_law_draw) (Z.keep .f_law_draw) (Z.binds .f_law_draw) (takes_of rfl rfl rfl rfl) (ca_cons (ce_var (i := 0)) (ca_cons ce_int ca_nil))) ce_int rfl) (ce_call (IH .f_law_draw) (hr.mono (by omega)) rfl (Z.mg_ .f_law_draw) (Z.keep .f_law_draw) (Z.binds .f_law_draw) (takes_of rfl rfl rfl rfl) (ca_cons (ce_var (i := 0)) (ca_cons ce_int ca_nil))) ce_int)) (cg_name (i := 3) nd_f_law_thing) (cs_one (cs_set (i := 4) (ce_op op_addA p2_add (ce_var (i := 4)) (ce_ix (ix_any (hu_of hr)) p2_ix ce_str (ce_call (IH .f_law_draw) (hr.mono (by omega)) rfl (Z.mg_ .f_law_draw) (Z.keep .f_law_draw) (Z.binds .f_law_draw) (takes_of rfl rfl rfl rfl) (ca_cons (ce_var (i := 0)) (ca_cons ce_int ca_nil))))) nd_f_law_thing)))
  (cs_one (cs_retV (i := 4))))) cs_nil)
  (cs_cons (cs_set (i := 3) (ce_if (ct_cmp op_gt p2_gt (ce_call (IH .f_law_draw) (hr.mono (by omega)) rfl (Z.mg_ .f_law_draw) (Z.keep .f_law_draw) (Z.binds .f_law_draw) (takes_of rfl rfl rfl rfl) (ca_cons (ce_var (i := 0)) (ca_cons ce_int ca_nil))) ce_int rfl) (ce_call (IH .f_law_draw) (hr.mono (by omega)) rfl (Z.mg_ .f_law_draw) (Z.keep .f_law_draw) (Z.binds .f_law_draw) (takes_of rfl rfl rfl rfl) (ca_cons (ce_var (i := 0)) (ca_cons ce_int ca_nil))) (ce_op op_mulA p2_mul (ce_op op_mulA p2_mul (ce_call (IH .f_law_draw) (hr.mono (by omega)) rfl (Z.mg_ .f_law_draw) (Z.keep .f_law_draw) (Z.binds .f_law_draw) (takes_of rfl rfl rfl rfl) (ca_cons (ce_var (i := 0)) (ca_cons ce_int ca_nil))) (ce_call (IH .f_law_draw) (hr.mono (by omega)) rfl (Z.mg_ .f_law_draw) (Z.keep .f_law_draw) (Z.binds .f_law_draw) (takes_of rfl rfl rfl rfl) (ca_cons (ce_var (i := 0)) (ca_cons ce_int ca_nil)))) (ce_call (IH .f_law_draw) (hr.mono (by omega)) rfl (Z.mg_ .f_law_draw) (Z.keep .f_law_draw) (Z.binds .f_law_draw) (takes_of rfl rfl rfl rfl) (ca_cons (ce_var (i := 0)) (ca_cons ce_int ca_nil))))) nd_f_law_thing)
  (cs_one (cs_ret (ce_if (ct_cmp (op_eqD (hu64 hr)) p2_eq (ce_call (IH .f_law_draw) (hr.mono (by omega)) rfl (Z.mg_ .f_law_draw) (Z.keep .f_law_draw) (Z.binds .f_law_draw) (takes_of rfl rfl rfl rfl) (ca_cons (ce_var (i := 0)) (ca_cons ce_int ca_nil))) ce_int rfl) (ce_var (i := 3)) (ce_op op_sub p2_sub ce_int (ce_var (i := 3))))))))))
theorem sc_f_law_digits : FnScope (locOf .f_law_digits) (psOf .f_law_digits) (defScope (stOf .f_law_digits)) := ⟨rfl, rfl, rfl, by decide +kernel, rfl, by decide +kernel, by decide +kernel⟩
theorem nd_f_law_digits : (locOf .f_law_digits).Nodup := sc_f_law_digits.nd
theorem ok_f_law_digits (Z : Fx K mg base T) {k : Nat} {cs : Fn → Fd} (IH : ∀ f, OkF P w K mg base T Z (4 * k) cs f) : FnOk P w K mg base (L2.CX P w) (4 * k + 3 + 1) (adr K .f_law_digits) (Z.fd .f_law_digits) (psOf .f_law_digits) (spF ⟨K, T, cadK K⟩ (psOf .f_law_digits).length (denF (psOf .f_law_digits).length (locOf .f_law_digits).length (bdOf .f_law_digits cs))) := by
  refine fn_bd Z .f_law_digits sc_f_law_digits fun cdv A outer s ρ0 H E hcd hr => ?_
  show CSs _ _ _ (b_f_law_digits cs)
  unfold b_f_law_digits
  exact (cs_one (cs_ret (ce_if (ct_cmp op_lt p2_lt (ce_var (i := 0)) ce_int rfl) (ce_lst (ca_cons (ce_var (i := 0)) ca_nil)) (ce_op op_addA p2_add (ce_lst (ca_cons (ce_op op_addA p2_add (ce_op op_mod p2_mod (ce_callTy call_int1 pn_int rfl Z.no_int boot_int (ca_cons (ce_var (i := 0)) ca_nil)) ce_int) ce_int) ca_nil)) (ce_call (IH .f_law_digits) (hr.mono (by omega)) rfl (Z.mg_ .f_law_digits) (Z.keep .f_law_digits) (Z.binds .f_law_digits) (takes_of rfl rfl rfl rfl) (ca_cons (ce_op op_fdiv p2_div (ce_var (i := 0)) ce_int) ca_nil))))))
theorem sc_f_law_write : FnScope (locOf .f_law_write) (psOf .f_law_write) (defScope (stOf .f_law_write)) := ⟨rfl, rfl, rfl, by decide +kernel, rfl, by decide +kernel, by decide +kernel⟩
theorem nd_f_law_write : (locOf .f_law_write).Nodup := sc_f_law_write.nd
theorem ok_f_law_write (Z : Fx K mg base T) {k : Nat} {cs : Fn → Fd} (IH : ∀ f, OkF P w K mg base T Z (4 * k) cs f) : FnOk P w K mg base (L2.CX P w) (4 * k + 3 + 1) (adr K .f_law_write) (Z.fd .f_law_write) (psOf .f_law_write) (spF ⟨K, T, cadK K⟩ (psOf .f_law_write).length (denF (psOf .f_law_write).length (locOf .f_law_write).length (bdOf .f_law_write cs))) := by
  refine fn_bd Z .f_law_write sc_f_law_write fun cdv A outer s ρ0 H E hcd hr => ?_
  show CSs _ _ _ (b_f_law_write cs)
  unfold b_f_law_write
  exact (cs_cons (cs_if (ct_tru (ce_callB call_isi pn_isi rfl Z.no_isinstance boot_isinstance (ca_cons (ce_var (i := 0)) (ca_cons (ce_ty (T := "tuple") rfl Z.no_tuple boot_tuple) ca_nil)))) (cs_cons (cs_set (i := 1) (ce_op op_addA p2_add (ce_lst (ca_cons ce_int ca_nil)) (ce_call (IH .f_law_digits) (hr.mono (by omega)) rfl (Z.mg_ .f_law_digits) (Z.keep .f_law_digits) (Z.binds .f_law_digits) (takes_of rfl rfl rfl rfl) (ca_cons (ce_callB call_lenA pn_len rfl Z.no_len boot_len (ca_cons (ce_var (i := 0)) ca_nil)) ca_nil))) nd_f_law_write)
  (cs_cons (cs_for (passes_of rfl) rfl (ci_V (i := 0)) (cg_name (i := 2) nd_f_law_write) (cs_one (cs_set (i := 1) (ce_op op_addA p2_add (ce_var (i := 1)) (ce_call (IH .f_law_write) (hr.mono (by omega)) rfl (Z.mg_ .f_law_write) (Z.keep .f_law_write) (Z.binds .f_law_write) (takes_of rfl rfl rfl rfl) (ca_cons (ce_var (i := 2)) ca_nil))) nd_f_law_write)))
  (cs_one (cs_retV (i := 1))))) cs_nil)
  (cs_cons (cs_if (ct_tru (ce_callB call_isi pn_isi rfl Z.no_isinstance boot_isinstance (ca_cons (ce_var (i := 0)) (ca_cons (ce_ty (T := "str") rfl Z.no_str boot_str) ca_nil)))) (cs_one (cs_ret (ce_op op_addA p2_add (ce_op op_addA p2_add (ce_lst (ca_cons ce_int ca_nil)) (ce_call (IH .f_law_digits) (hr.mono (by omega)) rfl (Z.mg_ .f_law_digits) (Z.keep .f_law_digits) (Z.binds .f_law_digits) (takes_of rfl rfl rfl rfl) (ca_cons (ce_callB call_lenA pn_len rfl Z.no_len boot_len (ca_cons (ce_var (i := 0)) ca_nil)) ca_nil))) (ce_lc (own := [("sign", 3)]) (ts := [3]) rfl nd_f_law_write (blkOk_by (by show blkC (locOf .f_law_write) (defScope (stOf .f_law_write)) _ _ = true; decide +kernel)) (ci_E (ce_var (i := 0))) (fun _ _ _ _ _ => (cg_name (i := 3) nd_f_law_write)) (fun _ _ _ _ _ => cts_nil) (fun _ _ _ _ _ => (ce_m1 PySem.F.slot_str_index PySem.F.type_str_index mt_sindex m_sindex ce_str (ce_var (i := 3)))) (by decide))))) cs_nil)
  (cs_one (cs_ret (ce_op op_addA p2_add (ce_lst (ca_cons ce_int ca_nil)) (ce_call (IH .f_law_digits) (hr.mono (by omega)) rfl (Z.mg_ .f_law_digits) (Z.keep .f_law_digits) (Z.binds .f_law_digits) (takes_of rfl rfl rfl rfl) (ca_cons (ce_if (ct_cmp op_ge p2_ge (ce_var (i := 0)) ce_int rfl) (ce_op op_mulA p2_mul ce_int (ce_var (i := 0))) (ce_op op_sub p2_sub (ce_op op_sub p2_sub ce_int (ce_op op_mulA p2_mul ce_int (ce_var (i := 0)))) ce_int)) ca_nil)))))))
theorem sc_f_law_sums : FnScope (locOf .f_law_sums) (psOf .f_law_sums) (defScope (stOf .f_law_sums)) := ⟨rfl, rfl, rfl, by decide +kernel, rfl, by decide +kernel, by decide +kernel⟩
theorem nd_f_law_sums : (locOf .f_law_sums).Nodup := sc_f_law_sums.nd
theorem ok_f_law_sums (Z : Fx K mg base T) {k : Nat} {cs : Fn → Fd} (IH : ∀ f, OkF P w K mg base T Z (4 * k) cs f) : FnOk P w K mg base (L2.CX P w) (4 * k + 3 + 1) (adr K .f_law_sums) (Z.fd .f_law_sums) (psOf .f_law_sums) (spF ⟨K, T, cadK K⟩ (psOf .f_law_sums).length (denF (psOf .f_law_sums).length (locOf .f_law_sums).length (bdOf .f_law_sums cs))) := by
  refine fn_bd Z .f_law_sums sc_f_law_sums fun cdv A outer s ρ0 H E hcd hr => ?_
  show CSs _ _ _ (b_f_law_sums cs)
  unfold b_f_law_sums
  exact (cs_cons (cs_asg (ce_tup (ca_cons ce_int (ca_cons ce_int ca_nil))) (cg_tup rfl (cgs_cons (cg_name (i := 1) nd_f_law_sums) (cgs_cons (cg_name (i := 2) nd_f_law_sums) (cgs_nil (ts := []))))))
  (cs_cons (cs_for (passes_of rfl) rfl (ci_range1 (fz := fzS _) rfl Z.no_range (ce_callB call_lenA pn_len rfl Z.no_len boot_len (ca_cons (ce_var (i := 0)) ca_nil))) (cg_name (i := 3) nd_f_law_sums) (cs_one (cs_par2 (i := 1) (j := 2) rfl nd_f_law_sums rfl rfl (by decide) rfl rfl (ca_cons (ce_op op_addA p2_add (ce_var (i := 1)) (ce_ix (ix_any (hu_of hr)) p2_ix (ce_var (i := 0)) (ce_var (i := 3)))) (ca_cons (ce_op op_addA p2_add (ce_var (i := 2)) (ce_op op_mulA p2_mul (ce_ix (ix_any (hu_of hr)) p2_ix (ce_var (i := 0)) (ce_var (i := 3))) (ce_op op_sub p2_sub (ce_callB call_lenA pn_len rfl Z.no_len boot_len (ca_cons (ce_var (i := 0)) ca_nil)) (ce_var (i := 3))))) ca_nil)) rfl)))
  (cs_one (cs_ret (ce_lst (ca_cons (ce_op op_mod p2_mod (ce_callTy call_int1 pn_int rfl Z.no_int boot_int (ca_cons (ce_var (i := 1)) ca_nil)) ce_int) (ca_cons (ce_op op_mod p2_mod (ce_callTy call_int1 pn_int rfl Z.no_int boot_int (ca_cons (ce_var (i := 2)) ca_nil)) ce_int) ca_nil)))))))
theorem sc_f_law_number : FnScope (locOf .f_law_number) (psOf .f_law_number) (defScope (stOf .f_law_number)) := ⟨rfl, rfl, rfl, by decide +kernel, rfl, by decide +kernel, by decide +kernel⟩
theorem nd_f_law_number : (locOf .f_law_number).Nodup := sc_f_law_number.nd
theorem ok_f_law_number (Z : Fx K mg base T) {k : Nat} {cs : Fn → Fd} (IH : ∀ f, OkF P w K mg base T Z (4 * k) cs f) : FnOk P w K mg base (L2.CX P w) (4 * k + 3 + 1) (adr K .f_law_number) (Z.fd .f_law_number) (psOf .f_law_number) (spF ⟨K, T, cadK K⟩ (psOf .f_law_number).length (denF (psOf .f_law_number).length (locOf .f_law_number).length (bdOf .f_law_number cs))) := by
  refine fn_bd Z .f_law_number sc_f_law_number fun cdv A outer s ρ0 H E hcd hr => ?_
  show CSs _ _ _ (b_f_law_number cs)
  unfold b_f_law_number
  exact (cs_cons (cs_par3 (i := 2) (j := 3) (l := 4) rfl nd_f_law_number rfl rfl rfl (by decide) (by decide) (by decide) rfl rfl rfl (ca_cons ce_int (ca_cons ce_int (ca_cons (ce_var (i := 1)) ca_nil))) rfl)
  (cs_cons (cs_while (n := wN) (passes_of rfl) (PW.pt (ct_and (ct_cmp op_lt p2_lt (ce_var (i := 1)) (ce_callB call_lenA pn_len rfl Z.no_len boot_len (ca_cons (ce_var (i := 0)) ca_nil)) rfl) (pw_and1 (ct_cmp op_ge p2_ge (ce_ix (ix_any (hu_of hr)) p2_ix (ce_var (i := 0)) (ce_var (i := 1))) ce_int rfl)))) (cs_one (cs_par3 (i := 2) (j := 3) (l := 1) rfl nd_f_law_number rfl rfl rfl (by decide) (by decide) (by decide) rfl rfl rfl (ca_cons (ce_op op_addA p2_add (ce_var (i := 2)) (ce_op op_mulA p2_mul (ce_var (i := 3)) (ce_op op_sub p2_sub (ce_ix (ix_any (hu_of hr)) p2_ix (ce_var (i := 0)) (ce_var (i := 1))) ce_int))) (ca_cons (ce_op op_mulA p2_mul (ce_var (i := 3)) ce_int) (ca_cons (ce_op op_addA p2_add (ce_var (i := 1)) ce_int) ca_nil))) rfl)))
  (cs_cons (cs_if (PW.pt (ct_or (ct_cmp op_ge p2_ge (ce_var (i := 1)) (ce_callB call_lenA pn_len rfl Z.no_len boot_len (ca_cons (ce_var (i := 0)) ca_nil)) rfl) (pw_or1 (PW.pt (ct_and (ct_cmp (op_eqD (hu64 hr)) p2_eq (ce_ix (ix_any (hu_of hr)) p2_ix (ce_var (i := 0)) (ce_var (i := 1))) ce_int rfl) (pw_and1 (ct_cmp op_gt p2_gt (ce_var (i := 1)) (ce_var (i := 4)) rfl))))))) (cs_one (cs_ret ce_non)) cs_nil)
  (cs_one (cs_ret (ce_tup (ca_cons (ce_op op_addA p2_add (ce_var (i := 2)) (ce_op op_mulA p2_mul (ce_var (i := 3)) (ce_ix (ix_any (hu_of hr)) p2_ix (ce_var (i := 0)) (ce_var (i := 1))))) (ca_cons (ce_op op_addA p2_add (ce_var (i := 1)) ce_int) ca_nil))))))))
theorem sc_f_law_at : FnScope (locOf .f_law_at) (psOf .f_law_at) (defScope (stOf .f_law_at)) := ⟨rfl, rfl, rfl, by decide +kernel, rfl, by decide +kernel, by decide +kernel⟩
theorem nd_f_law_at : (locOf .f_law_at).Nodup := sc_f_law_at.nd
theorem ok_f_law_at (Z : Fx K mg base T) {k : Nat} {cs : Fn → Fd} (IH : ∀ f, OkF P w K mg base T Z (4 * k) cs f) : FnOk P w K mg base (L2.CX P w) (4 * k + 3 + 1) (adr K .f_law_at) (Z.fd .f_law_at) (psOf .f_law_at) (spF ⟨K, T, cadK K⟩ (psOf .f_law_at).length (denF (psOf .f_law_at).length (locOf .f_law_at).length (bdOf .f_law_at cs))) := by
  refine fn_bd Z .f_law_at sc_f_law_at fun cdv A outer s ρ0 H E hcd hr => ?_
  show CSs _ _ _ (b_f_law_at cs)
  unfold b_f_law_at
  exact (cs_cons (cs_if (PW.pt (ct_or (ct_cmp op_ge p2_ge (ce_var (i := 1)) (ce_callB call_lenA pn_len rfl Z.no_len boot_len (ca_cons (ce_var (i := 0)) ca_nil)) rfl) (pw_or1 (ct_cmp (op_notInA (hu_of hr)) p2_notIn (ce_ix (ix_any (hu_of hr)) p2_ix (ce_var (i := 0)) (ce_var (i := 1))) (ce_tup (ca_cons ce_int (ca_cons ce_int (ca_cons ce_int ca_nil)))) rfl)))) (cs_one (cs_ret ce_non)) cs_nil)
  (cs_cons (cs_set (i := 2) (ce_call (IH .f_law_number) (hr.mono (by omega)) rfl (Z.mg_ .f_law_number) (Z.keep .f_law_number) (Z.binds .f_law_number) (takes_of rfl rfl rfl rfl) (ca_cons (ce_var (i := 0)) (ca_cons (ce_op op_addA p2_add (ce_var (i := 1)) ce_int) ca_nil))) nd_f_law_at)
  (cs_cons (cs_if (ct_cmp op_isA p2_is (ce_var (i := 2)) ce_non rfl) (cs_one (cs_ret ce_non)) cs_nil)
  (cs_cons (cs_asg (ce_var (i := 2)) (cg_tup rfl (cgs_cons (cg_name (i := 3) nd_f_law_at) (cgs_cons (cg_name (i := 4) nd_f_law_at) (cgs_nil (ts := []))))))
  (cs_cons (cs_if (ct_cmp (op_eqD (hu64 hr)) p2_eq (ce_ix (ix_any (hu_of hr)) p2_ix (ce_var (i := 0)) (ce_var (i := 1))) ce_int rfl) (cs_one (cs_ret (ce_tup (ca_cons (ce_if (ct_cmp (op_eqD (hu64 hr)) p2_eq (ce_op op_mod p2_mod (ce_callTy call_int1 pn_int rfl Z.no_int boot_int (ca_cons (ce_var (i := 3)) ca_nil)) ce_int) ce_int rfl) (ce_op op_fdiv p2_div (ce_var (i := 3)) ce_int) (ce_op op_sub p2_sub ce_int (ce_op op_fdiv p2_div (ce_op op_addA p2_add (ce_var (i := 3)) ce_int) ce_int))) (ca_cons (ce_var (i := 4)) ca_nil))))) cs_nil)
  (cs_cons (cs_if (ct_cmp op_gt p2_gt (ce_var (i := 3)) (ce_callB call_lenA pn_len rfl Z.no_len boot_len (ca_cons (ce_var (i := 0)) ca_nil)) rfl) (cs_one (cs_ret ce_non)) cs_nil)
  (cs_cons (cs_if (ct_cmp (op_eqD (hu64 hr)) p2_eq (ce_ix (ix_any (hu_of hr)) p2_ix (ce_var (i := 0)) (ce_var (i := 1))) ce_int rfl) (cs_cons (cs_set (i := 5) (ce_slice (ce_var (i := 0)) (co_some (ce_var (i := 4))) (co_some (ce_op op_addA p2_add (ce_var (i := 4)) (ce_var (i := 3))))) nd_f_law_at)
  (cs_cons (cs_if (PW.pt (ct_or (ct_cmp op_lt p2_lt (ce_callB call_lenA pn_len rfl Z.no_len boot_len (ca_cons (ce_var (i := 5)) ca_nil)) (ce_var (i := 3)) rfl) (pw_or1 (ct_cmp (op_neD (hu64 hr)) p2_ne (ce_lc (own := [("sign", 6)]) (ts := [6]) rfl nd_f_law_at (blkOk_by (by show blkC (locOf .f_law_at) (defScope (stOf .f_law_at)) _ _ = true; decide +kernel)) (ci_E (ce_var (i := 5))) (fun _ _ _ _ _ => (cg_name (i := 6) nd_f_law_at)) (fun _ _ _ _ _ => (cts_one (ct_cmp op_gt p2_gt (ce_var (i := 6)) ce_int rfl))) (fun _ _ _ _ _ => (ce_var (i := 6))) (by decide)) (ce_lst ca_nil) rfl)))) (cs_one (cs_ret ce_non)) cs_nil)
  (cs_one (cs_ret (ce_tup (ca_cons (ce_m1 PySem.F.slot_str_join PySem.F.type_str_join mt_join m_join ce_str (ce_lc (own := [("sign", 6)]) (ts := [6]) rfl nd_f_law_at (blkOk_by (by show blkC (locOf .f_law_at) (defScope (stOf .f_law_at)) _ _ = true; decide +kernel)) (ci_E (ce_var (i := 5))) (fun _ _ _ _ _ => (cg_name (i := 6) nd_f_law_at)) (fun _ _ _ _ _ => cts_nil) (fun _ _ _ _ _ => (ce_ix (ix_any (hu_of hr)) p2_ix ce_str (ce_var (i := 6)))) (by decide))) (ca_cons (ce_op op_addA p2_add (ce_var (i := 4)) (ce_var (i := 3))) ca_nil))))))) cs_nil)
  (cs_cons (cs_set (i := 7) (ce_tup ca_nil) nd_f_law_at)
  (cs_cons (cs_for (passes_of rfl) rfl (ci_range1 (fz := fzS _) rfl Z.no_range (ce_var (i := 3))) (cg_name (i := 8) nd_f_law_at) (cs_cons (cs_set (i := 9) (ce_call (IH .f_law_at) (hr.mono (by omega)) rfl (Z.mg_ .f_law_at) (Z.keep .f_law_at) (Z.binds .f_law_at) (takes_of rfl rfl rfl rfl) (ca_cons (ce_var (i := 0)) (ca_cons (ce_var (i := 4)) ca_nil))) nd_f_law_at)
  (cs_cons (cs_if (ct_cmp op_isA p2_is (ce_var (i := 9)) ce_non rfl) (cs_one (cs_ret ce_non)) cs_nil)
  (cs_one (cs_par2 (i := 7) (j := 4) rfl nd_f_law_at rfl rfl (by decide) rfl rfl (ca_cons (ce_op op_addA p2_add (ce_var (i := 7)) (ce_tup (ca_cons (ce_ix (ix_any (hu_of hr)) p2_ix (ce_var (i := 9)) ce_int) ca_nil))) (ca_cons (ce_ix (ix_any (hu_of hr)) p2_ix (ce_var (i := 9)) ce_int) ca_nil)) rfl)))))
  (cs_one (cs_ret (ce_tup (ca_cons (ce_var (i := 7)) (ca_cons (ce_var (i := 4)) ca_nil))))))))))))))
theorem sc_f_law_received : FnScope (locOf .f_law_received) (psOf .f_law_received) (defScope (stOf .f_law_received)) := ⟨rfl, rfl, rfl, by decide +kernel, rfl, by decide +kernel, by decide +kernel⟩
theorem nd_f_law_received : (locOf .f_law_received).Nodup := sc_f_law_received.nd
theorem ok_f_law_received (Z : Fx K mg base T) {k : Nat} {cs : Fn → Fd} (IH : ∀ f, OkF P w K mg base T Z (4 * k) cs f) : FnOk P w K mg base (L2.CX P w) (4 * k + 3 + 1) (adr K .f_law_received) (Z.fd .f_law_received) (psOf .f_law_received) (spF ⟨K, T, cadK K⟩ (psOf .f_law_received).length (denF (psOf .f_law_received).length (locOf .f_law_received).length (bdOf .f_law_received cs))) := by
  refine fn_bd Z .f_law_received sc_f_law_received fun cdv A outer s ρ0 H E hcd hr => ?_
  show CSs _ _ _ (b_f_law_received cs)
  unfold b_f_law_received
  exact (cs_cons (cs_if (PW.pt (ct_or (ct_cmp op_lt p2_lt (ce_callB call_lenA pn_len rfl Z.no_len boot_len (ca_cons (ce_var (i := 0)) ca_nil)) ce_int rfl) (pw_or1 (ct_cmp (op_neD (hu64 hr)) p2_ne (ce_callTy call_list_of pn_list rfl Z.no_list boot_list (ca_cons (ce_slice (ce_var (i := 0)) (co_some (ce_un un_neg p1_neg ce_int)) co_none) ca_nil)) (ce_call (IH .f_law_sums) (hr.mono (by omega)) rfl (Z.mg_ .f_law_sums) (Z.keep .f_law_sums) (Z.binds .f_law_sums) (takes_of rfl rfl rfl rfl) (ca_cons (ce_slice (ce_var (i := 0)) co_none (co_some (ce_un un_neg p1_neg ce_int))) ca_nil)) rfl)))) (cs_one (cs_ret (ce_tup (ca_cons ce_str ca_nil)))) cs_nil)
  (cs_cons (cs_set (i := 1) (ce_call (IH .f_law_at) (hr.mono (by omega)) rfl (Z.mg_ .f_law_at) (Z.keep .f_law_at) (Z.binds .f_law_at) (takes_of rfl rfl rfl rfl) (ca_cons (ce_slice (ce_var (i := 0)) co_none (co_some (ce_un un_neg p1_neg ce_int))) (ca_cons ce_int ca_nil))) nd_f_law_received)
  (cs_one (cs_ret (ce_if (PW.pt (ct_and (ct_cmp op_isNotA p2_isNot (ce_var (i := 1)) ce_non rfl) (pw_and1 (ct_cmp (op_eqD (hu64 hr)) p2_eq (ce_ix (ix_any (hu_of hr)) p2_ix (ce_var (i := 1)) ce_int) (ce_op op_sub p2_sub (ce_callB call_lenA pn_len rfl Z.no_len boot_len (ca_cons (ce_var (i := 0)) ca_nil)) ce_int) rfl)))) (ce_tup (ca_cons ce_str (ca_cons (ce_ix (ix_any (hu_of hr)) p2_ix (ce_var (i := 1)) ce_int) ca_nil))) (ce_tup (ca_cons ce_str ca_nil)))))))
theorem sc_f_law : FnScope (locOf .f_law) (psOf .f_law) (defScope (stOf .f_law)) := ⟨rfl, rfl, rfl, by decide +kernel, rfl, by decide +kernel, by decide +kernel⟩
theorem nd_f_law : (locOf .f_law).Nodup := sc_f_law.nd
theorem ok_f_law (Z : Fx K mg base T) {k : Nat} {cs : Fn → Fd} (IH : ∀ f, OkF P w K mg base T Z (4 * k) cs f) : FnOk P w K mg base (L2.CX P w) (4 * k + 3 + 1) (adr K .f_law) (Z.fd .f_law) (psOf .f_law) (spF ⟨K, T, cadK K⟩ (psOf .f_law).length (denF (psOf .f_law).length (locOf .f_law).length (bdOf .f_law cs))) := by
  refine fn_bd Z .f_law sc_f_law fun cdv A outer s ρ0 H E hcd hr => ?_
  obtain ⟨cdT, lt⟩ := told_at Z cdv A outer s H E IH hr
  show CSs _ _ _ (b_f_law cs)
  unfold b_f_law
  exact (cs_cons (cs_set (i := 1) (ce_share (ce_call (IH .f_law_stream) (hr.mono (by omega)) rfl (Z.mg_ .f_law_stream) (Z.keep .f_law_stream) (Z.binds .f_law_stream) (takes_of rfl rfl rfl rfl) (ca_cons (ce_var (i := 0)) (ca_cons ce_int ca_nil)))) nd_f_law)
  (cs_cons (cs_set (i := 2) (ce_call (IH .f_law_thing) (hr.mono (by omega)) rfl (Z.mg_ .f_law_thing) (Z.keep .f_law_thing) (Z.binds .f_law_thing) (takes_of rfl rfl rfl rfl) (ca_cons (ce_var (i := 1)) (ca_cons ce_int ca_nil))) nd_f_law)
  (cs_cons (cs_set (i := 3) (ce_call (IH .f_law_write) (hr.mono (by omega)) rfl (Z.mg_ .f_law_write) (Z.keep .f_law_write) (Z.binds .f_law_write) (takes_of rfl rfl rfl rfl) (ca_cons (ce_var (i := 2)) ca_nil)) nd_f_law)
  (cs_cons (cs_set (i := 4) (ce_callTy call_tuple_of pn_tuple rfl Z.no_tuple boot_tuple (ca_cons (ce_op op_addA p2_add (ce_var (i := 3)) (ce_call (IH .f_law_sums) (hr.mono (by omega)) rfl (Z.mg_ .f_law_sums) (Z.keep .f_law_sums) (Z.binds .f_law_sums) (takes_of rfl rfl rfl rfl) (ca_cons (ce_var (i := 3)) ca_nil))) ca_nil)) nd_f_law)
  (cs_cons (cs_if (ct_cmp (op_neD (hu64 hr)) p2_ne (ce_told (k := 4 * k + 1) rfl lt.1 lt.2 Z.told Z.tab_l.tb (hcd.symm.trans Z.tab_l.code) Z.tab_l.mem Z.tab_l.uniq (hr.mono (by omega)) (LamX.lamS_by (by show LamX.lamSB (defScope (stOf .f_law)) _ = true; decide +kernel)) rfl (fun _ _ _ _ _ => rfl) (fun _ _ _ _ _ _ _ hl => (ce_call (IH .f_sent) (hl.mono (by omega)) rfl (Z.mg_ .f_sent) (Z.keep .f_sent) (Z.binds .f_sent) (takes_of rfl rfl rfl rfl) (ca_cons (ce_var (i := 2)) ca_nil)))) (ce_tup (ca_cons ce_int (ca_cons (ce_var (i := 4)) ca_nil))) rfl) (cs_one (cs_ret ce_bl)) cs_nil)
  (cs_cons (cs_if (ct_cmp (op_neD (hu64 hr)) p2_ne (ce_told (k := 4 * k + 1) rfl lt.1 lt.2 Z.told Z.tab_l.tb (hcd.symm.trans Z.tab_l.code) Z.tab_l.mem Z.tab_l.uniq (hr.mono (by omega)) (LamX.lamS_by (by show LamX.lamSB (defScope (stOf .f_law)) _ = true; decide +kernel)) rfl (fun _ _ _ _ _ => rfl) (fun _ _ _ _ _ _ _ hl => (ce_call (IH .f_received) (hl.mono (by omega)) rfl (Z.mg_ .f_received) (Z.keep .f_received) (Z.binds .f_received) (takes_of rfl rfl rfl rfl) (ca_cons (ce_var (i := 4)) ca_nil)))) (ce_tup (ca_cons ce_int (ca_cons (ce_tup (ca_cons ce_str (ca_cons (ce_var (i := 2)) ca_nil))) ca_nil))) rfl) (cs_one (cs_ret ce_bl)) cs_nil)
  (cs_cons (cs_for (passes_of rfl) rfl (ci_range1 (fz := fzS _) rfl Z.no_range ce_int) (cg_name (i := 5) nd_f_law) (cs_cons (cs_set (i := 6) (ce_call (IH .f_law_draw) (hr.mono (by omega)) rfl (Z.mg_ .f_law_draw) (Z.keep .f_law_draw) (Z.binds .f_law_draw) (takes_of rfl rfl rfl rfl) (ca_cons (ce_var (i := 1)) (ca_cons (ce_callB call_lenA pn_len rfl Z.no_len boot_len (ca_cons (ce_var (i := 4)) ca_nil)) ca_nil))) nd_f_law)
  (cs_cons (cs_set (i := 7) (ce_op op_mod p2_mod (ce_callTy call_int1 pn_int rfl Z.no_int boot_int (ca_cons (ce_op op_addA p2_add (ce_op op_addA p2_add (ce_ix (ix_any (hu_of hr)) p2_ix (ce_var (i := 4)) (ce_var (i := 6))) ce_int) (ce_call (IH .f_law_draw) (hr.mono (by omega)) rfl (Z.mg_ .f_law_draw) (Z.keep .f_law_draw) (Z.binds .f_law_draw) (takes_of rfl rfl rfl rfl) (ca_cons (ce_var (i := 1)) (ca_cons ce_int ca_nil)))) ca_nil)) ce_int) nd_f_law)
  (cs_cons (cs_set (i := 8) (ce_op op_addA p2_add (ce_op op_addA p2_add (ce_slice (ce_var (i := 4)) co_none (co_some (ce_var (i := 6)))) (ce_tup (ca_cons (ce_var (i := 7)) ca_nil))) (ce_slice (ce_var (i := 4)) (co_some (ce_op op_addA p2_add (ce_var (i := 6)) ce_int)) co_none)) nd_f_law)
  (cs_cons (cs_if (ct_cmp (op_neD (hu64 hr)) p2_ne (ce_told (k := 4 * k + 1) rfl lt.1 lt.2 Z.told Z.tab_l.tb (hcd.symm.trans Z.tab_l.code) Z.tab_l.mem Z.tab_l.uniq (hr.mono (by omega)) (LamX.lamS_by (by show LamX.lamSB (defScope (stOf .f_law)) _ = true; decide +kernel)) rfl (fun _ _ _ _ _ => rfl) (fun _ _ _ _ _ _ _ hl => (ce_call (IH .f_received) (hl.mono (by omega)) rfl (Z.mg_ .f_received) (Z.keep .f_received) (Z.binds .f_received) (takes_of rfl rfl rfl rfl) (ca_cons (ce_var (i := 8)) ca_nil)))) (ce_tup (ca_cons ce_int (ca_cons (ce_tup (ca_cons ce_str ca_nil)) ca_nil))) rfl) (cs_one (cs_ret ce_bl)) cs_nil)
  (cs_cons (cs_set (i := 6) (ce_call (IH .f_law_draw) (hr.mono (by omega)) rfl (Z.mg_ .f_law_draw) (Z.keep .f_law_draw) (Z.binds .f_law_draw) (takes_of rfl rfl rfl rfl) (ca_cons (ce_var (i := 1)) (ca_cons (ce_op op_sub p2_sub (ce_callB call_lenA pn_len rfl Z.no_len boot_len (ca_cons (ce_var (i := 4)) ca_nil)) ce_int) ca_nil))) nd_f_law)
  (cs_cons (cs_set (i := 8) (ce_op op_addA p2_add (ce_op op_addA p2_add (ce_slice (ce_var (i := 4)) co_none (co_some (ce_var (i := 6)))) (ce_tup (ca_cons (ce_ix (ix_any (hu_of hr)) p2_ix (ce_var (i := 4)) (ce_op op_addA p2_add (ce_var (i := 6)) ce_int)) (ca_cons (ce_ix (ix_any (hu_of hr)) p2_ix (ce_var (i := 4)) (ce_var (i := 6))) ca_nil)))) (ce_slice (ce_var (i := 4)) (co_some (ce_op op_addA p2_add (ce_var (i := 6)) ce_int)) co_none)) nd_f_law)
  (cs_cons (cs_if (PW.pt (ct_and (ct_cmp (op_neD (hu64 hr)) p2_ne (ce_ix (ix_any (hu_of hr)) p2_ix (ce_var (i := 4)) (ce_var (i := 6))) (ce_ix (ix_any (hu_of hr)) p2_ix (ce_var (i := 4)) (ce_op op_addA p2_add (ce_var (i := 6)) ce_int)) rfl) (pw_and1 (ct_cmp (op_neD (hu64 hr)) p2_ne (ce_told (k := 4 * k + 1) rfl lt.1 lt.2 Z.told Z.tab_l.tb (hcd.symm.trans Z.tab_l.code) Z.tab_l.mem Z.tab_l.uniq (hr.mono (by omega)) (LamX.lamS_by (by show LamX.lamSB (defScope (stOf .f_law)) _ = true; decide +kernel)) rfl (fun _ _ _ _ _ => rfl) (fun _ _ _ _ _ _ _ hl => (ce_call (IH .f_received) (hl.mono (by omega)) rfl (Z.mg_ .f_received) (Z.keep .f_received) (Z.binds .f_received) (takes_of rfl rfl rfl rfl) (ca_cons (ce_var (i := 8)) ca_nil)))) (ce_tup (ca_cons ce_int (ca_cons (ce_tup (ca_cons ce_str ca_nil)) ca_nil))) rfl)))) (cs_one (cs_ret ce_bl)) cs_nil)
  (cs_cons (cs_setLc (ix := 9) (hy := rfl) (hyl := rfl) (hsw := sw_true rfl rfl rfl rfl) (own := [("k", 7)]) (ts := [7]) rfl nd_f_law (blkOk_by (by show blkC (locOf .f_law) (defScope (stOf .f_law)) _ _ = true; decide +kernel)) (ci_range1 (fz := fzE) rfl Z.no_range (ce_call (IH .f_law_draw) (hr.mono (by omega)) rfl (Z.mg_ .f_law_draw) (Z.keep .f_law_draw) (Z.binds .f_law_draw) (takes_of rfl rfl rfl rfl) (ca_cons (ce_var (i := 1)) (ca_cons ce_int ca_nil)))) (fun _ _ _ _ _ => (cg_name (i := 7) nd_f_law)) (fun _ _ _ _ _ => cts_nil) (fun _ _ _ _ _ => (ce_ix (ix_any (hu_of hr)) p2_ix (ce_tup (ca_cons ce_int (ca_cons ce_int (ca_cons ce_int (ca_cons ce_int (ca_cons ce_int (ca_cons ce_int (ca_cons ce_int (ca_cons ce_int ca_nil))))))))) (ce_call (IH .f_law_draw) (hr.mono (by omega)) rfl (Z.mg_ .f_law_draw) (Z.keep .f_law_draw) (Z.binds .f_law_draw) LamX.takes0 (ca_cons (ce_var (i := 1)) (ca_cons ce_int ca_nil))))) (by decide))
  (cs_cons (cs_set (i := 8) (ce_callTy call_tuple_of pn_tuple rfl Z.no_tuple boot_tuple (ca_cons (ce_op op_addA p2_add (ce_var (i := 9)) (ce_call (IH .f_law_sums) (hr.mono (by omega)) rfl (Z.mg_ .f_law_sums) (Z.keep .f_law_sums) (Z.binds .f_law_sums) (takes_of rfl rfl rfl rfl) (ca_cons (ce_var (i := 9)) ca_nil))) ca_nil)) nd_f_law)
  (cs_one (cs_if (ct_cmp (op_neD (hu64 hr)) p2_ne (ce_told (k := 4 * k + 1) rfl lt.1 lt.2 Z.told Z.tab_l.tb (hcd.symm.trans Z.tab_l.code) Z.tab_l.mem Z.tab_l.uniq (hr.mono (by omega)) (LamX.lamS_by (by show LamX.lamSB (defScope (stOf .f_law)) _ = true; decide +kernel)) rfl (fun _ _ _ _ _ => rfl) (fun _ _ _ _ _ _ _ hl => (ce_call (IH .f_received) (hl.mono (by omega)) rfl (Z.mg_ .f_received) (Z.keep .f_received) (Z.binds .f_received) (takes_of rfl rfl rfl rfl) (ca_cons (ce_var (i := 8)) ca_nil)))) (ce_tup (ca_cons ce_int (ca_cons (ce_call (IH .f_law_received) (hr.mono (by omega)) rfl (Z.mg_ .f_law_received) (Z.keep .f_law_received) (Z.binds .f_law_received) (takes_of rfl rfl rfl rfl) (ca_cons (ce_var (i := 8)) ca_nil)) ca_nil))) rfl) (cs_one (cs_ret ce_bl)) cs_nil))))))))))))
  (cs_cons (cs_if (ct_cmp (op_neD (hu64 hr)) p2_ne (ce_told (k := 4 * k + 1) rfl lt.1 lt.2 Z.told Z.tab_l.tb (hcd.symm.trans Z.tab_l.code) Z.tab_l.mem Z.tab_l.uniq (hr.mono (by omega)) (LamX.lamS_by (by show LamX.lamSB (defScope (stOf .f_law)) _ = true; decide +kernel)) rfl (fun _ _ _ _ _ => rfl) (fun _ _ _ _ _ _ _ hl => (ce_call (IH .f_sent) (hl.mono (by omega)) rfl (Z.mg_ .f_sent) (Z.keep .f_sent) (Z.binds .f_sent) (takes_of rfl rfl rfl rfl) (ca_cons (ce_tup (ca_cons (ce_var (i := 2)) (ca_cons ce_str ca_nil))) ca_nil)))) (ce_tup (ca_cons ce_int (ca_cons ce_str ca_nil))) rfl) (cs_one (cs_ret ce_bl)) cs_nil)
  (cs_cons (cs_par2 (i := 6) (j := 10) rfl nd_f_law rfl rfl (by decide) rfl rfl (ca_cons (ce_call (IH .f_law_draw) (hr.mono (by omega)) rfl (Z.mg_ .f_law_draw) (Z.keep .f_law_draw) (Z.binds .f_law_draw) (takes_of rfl rfl rfl rfl) (ca_cons (ce_var (i := 1)) (ca_cons (ce_callB call_lenA pn_len rfl Z.no_len boot_len (ca_cons (ce_var (i := 4)) ca_nil)) ca_nil))) (ca_cons (ce_ix (ix_any (hu_of hr)) p2_ix (ce_tup (ca_cons ce_int (ca_cons (ce_un un_neg p1_neg ce_int) ca_nil))) (ce_call (IH .f_law_draw) (hr.mono (by omega)) rfl (Z.mg_ .f_law_draw) (Z.keep .f_law_draw) (Z.binds .f_law_draw) (takes_of rfl rfl rfl rfl) (ca_cons (ce_var (i := 1)) (ca_cons ce_int ca_nil)))) ca_nil)) rfl)
  (cs_cons (cs_for (passes_of rfl) rfl (ci_S (ce_tup (ca_cons (ce_op op_addA p2_add (ce_tup (ca_cons ce_int ca_nil)) (ce_var (i := 4))) (ca_cons (ce_op op_addA p2_add (ce_op op_addA p2_add (ce_slice (ce_var (i := 4)) co_none (co_some (ce_var (i := 6)))) (ce_tup (ca_cons (ce_var (i := 10)) ca_nil))) (ce_slice (ce_var (i := 4)) (co_some (ce_var (i := 6))) co_none)) (ca_cons (ce_op op_addA p2_add (ce_op op_addA p2_add (ce_slice (ce_var (i := 4)) co_none (co_some (ce_var (i := 6)))) (ce_tup (ca_cons (ce_var (i := 10)) ca_nil))) (ce_slice (ce_var (i := 4)) (co_some (ce_op op_addA p2_add (ce_var (i := 6)) ce_int)) co_none)) ca_nil))))) (cg_name (i := 8) nd_f_law) (cs_one (cs_if (ct_cmp (op_neD (hu64 hr)) p2_ne (ce_told (k := 4 * k + 1) rfl lt.1 lt.2 Z.told Z.tab_l.tb (hcd.symm.trans Z.tab_l.code) Z.tab_l.mem Z.tab_l.uniq (hr.mono (by omega)) (LamX.lamS_by (by show LamX.lamSB (defScope (stOf .f_law)) _ = true; decide +kernel)) rfl (fun _ _ _ _ _ => rfl) (fun _ _ _ _ _ _ _ hl => (ce_call (IH .f_received) (hl.mono (by omega)) rfl (Z.mg_ .f_received) (Z.keep .f_received) (Z.binds .f_received) (takes_of rfl rfl rfl rfl) (ca_cons (ce_var (i := 8)) ca_nil)))) (ce_tup (ca_cons ce_int (ca_cons (ce_tup (ca_cons ce_str ca_nil)) ca_nil))) rfl) (cs_one (cs_ret ce_bl)) cs_nil)))
  (cs_one (cs_ret (ce_cmp (op_eqD (hu64 hr)) p2_eq (ce_told (k := 4 * k + 1) rfl lt.1 lt.2 Z.told Z.tab_l.tb (hcd.symm.trans Z.tab_l.code) Z.tab_l.mem Z.tab_l.uniq (hr.mono (by omega)) (LamX.lamS_by (by show LamX.lamSB (defScope (stOf .f_law)) _ = true; decide +kernel)) rfl (fun _ _ _ _ _ => rfl) (fun _ _ _ _ _ _ _ hl => (ce_call (IH .f_received) (hl.mono (by omega)) rfl (Z.mg_ .f_received) (Z.keep .f_received) (Z.binds .f_received) (takes_of rfl rfl rfl rfl) (ca_cons ce_str ca_nil)))) (ce_tup (ca_cons ce_int (ca_cons (ce_tup (ca_cons ce_str ca_nil)) ca_nil))) rfl)))))))))))))
end
end Sh65
set_option Elab.async false
set_option linter.all false
set_option maxRecDepth 100000
set_option maxHeartbeats 4000000
namespace Sh65
open PySem PySem.Spec PyProof.Rows L2 Sh
section
variable {P : Program} {w : World} {K : PySem.W.Frag} {mg : Str → Option Value} {base : Heap} {T : List (Addr × Str)}
theorem sc_f_law_told : FnScope (locOf .f_law_told) (psOf .f_law_told) (defScope (stOf .f_law_told)) := ⟨rfl, rfl, rfl, by decide +kernel, rfl, by decide +kernel, by decide +kernel⟩
theorem sc_ : ∀ f, FnScope (locOf f) (psOf f) (defScope (stOf f))
  | .f_is_int => sc_f_is_int
  | .f_digits => sc_f_digits
  | .f_written => sc_f_written
  | .f_sums => sc_f_sums
  | .f_sent => sc_f_sent
  | .f_number_at => sc_f_number_at
  | .f_thing_at => sc_f_thing_at
  | .f_received => sc_f_received
  | .f_law_cell => sc_f_law_cell
  | .f_law_stream => sc_f_law_stream
  | .f_law_draw => sc_f_law_draw
  | .f_law_read => sc_f_law_read
  | .f_law_told => sc_f_law_told
  | .f_law_thing => sc_f_law_thing
  | .f_law_digits => sc_f_law_digits
  | .f_law_write => sc_f_law_write
  | .f_law_sums => sc_f_law_sums
  | .f_law_number => sc_f_law_number
  | .f_law_at => sc_f_law_at
  | .f_law_received => sc_f_law_received
  | .f_law => sc_f_law
/-- a def of which nothing is said -/
theorem ok_none (Z : Fx K mg base T) (k : Nat) (f : Fn) (g : Fd) (hg : ∀ rs h, g rs h = none) : FnOk P w K mg base (L2.CX P w) (k + 1) (adr K f) (Z.fd f) (psOf f) (spF ⟨K, T, cadK K⟩ (psOf f).length g) :=
  (Z.fun_ f).ok (sc_ f) (fun vs H Q E h => h.1) fun cdv A outer s H vs Q E hr hsp => by
    obtain ⟨_, ρ, h, Ha, rs, _, _, _, e⟩ := hsp
    rw [hg] at e
    exact e.elim
theorem ok_step (Z : Fx K mg base T) {k : Nat} {cs : Fn → Fd} (IH : ∀ f, OkF P w K mg base T Z (4 * k) cs f) : ∀ f : Fn, FnOk P w K mg base (L2.CX P w) (4 * k + 3 + 1) (adr K f) (Z.fd f) (psOf f) (spF ⟨K, T, cadK K⟩ (psOf f).length (denF (psOf f).length (locOf f).length (bdOf f cs)))
  | .f_is_int => ok_f_is_int Z IH
  | .f_digits => ok_f_digits Z IH
  | .f_written => ok_f_written Z IH
  | .f_sums => ok_f_sums Z IH
  | .f_sent => ok_f_sent Z IH
  | .f_number_at => ok_f_number_at Z IH
  | .f_thing_at => ok_f_thing_at Z IH
  | .f_received => ok_f_received Z IH
  | .f_law_cell => ok_f_law_cell Z IH
  | .f_law_stream => ok_f_law_stream Z IH
  | .f_law_draw => ok_f_law_draw Z IH
  | .f_law_read => ok_f_law_read Z IH
  | .f_law_told => ok_none Z _ .f_law_told _ fun rs h => by show (if _ then fnRes none else none) = _; split <;> rfl
  | .f_law_thing => ok_f_law_thing Z IH
  | .f_law_digits => ok_f_law_digits Z IH
  | .f_law_write => ok_f_law_write Z IH
  | .f_law_sums => ok_f_law_sums Z IH
  | .f_law_number => ok_f_law_number Z IH
  | .f_law_at => ok_f_law_at Z IH
  | .f_law_received => ok_f_law_received Z IH
  | .f_law => ok_f_law Z IH
theorem ok_all (Z : Fx K mg base T) : ∀ (n : Nat) (f : Fn), OkF P w K mg base T Z (4 * (n + 1)) (run n) f
  | 0, f => ok_none Z _ f _ fun _ _ => rfl
  | n + 1, f => ok_step Z (ok_all Z n) f
end
end Sh65
set_option Elab.async false
set_option linter.all false
set_option maxRecDepth 100000
set_option maxHeartbeats 0
namespace Sh65
open PySem PySem.Spec PyProof.Rows L2 Sh
/-! ### the head -/
def fns : List Fn := [.f_is_int, .f_digits, .f_written, .f_sums, .f_sent, .f_number_at, .f_thing_at, .f_received, .f_law_cell, .f_law_stream, .f_law_draw, .f_law_read, .f_law_told, .f_law_thing, .f_law_digits, .f_law_write, .f_law_sums, .f_law_number, .f_law_at, .f_law_received, .f_law]
def dOf (f : Fn) : He.DefD := ⟨(nmOf f, none), nmOf f, nmOf f, defArgs (stOf f), defBody (stOf f), defScope (stOf f), [], []⟩
def fnL : List He.DefD := fns.map dOf
def faL : List He.Fa := [.glo "is_int", .glo "digits", .glo "written", .glo "sums", .glo "sent", .glo "number_at", .glo "thing_at", .glo "received", .glo "_law_cell", .glo "_law_stream", .glo "_law_draw", .glo "_law_read", .glo "_law_told", .glo "_law_thing", .glo "_law_digits", .glo "_law_write", .glo "_law_sums", .glo "_law_number", .glo "_law_at", .glo "_law_received", .glo "law", .glo "TypeTroubles", .glo "BadProgram", .glo "BadQuestion", .glo "BadRun", .glo "NotThere", .glo "Wrong", .free "len", .free "abs", .free "isinstance", .free "int", .free "str", .free "type", .free "tuple", .free "list", .free "range", .free "any", .free "all", .free "reversed", .free "enumerate", .free "bool", .str "SIGNS" k_SIGNS, .exc "BadRun", .exm "Wrong" "Wrong" true, .exm "BadRun" "TypeTroubles" true]
def tfL : List He.Defn := [("written", none), ("thing_at", none), ("received", none), ("law", none)]
def exB : List Value := [.type "Exception", .type "BaseException", .type "object"]
def excB (K : PySem.W.Frag) (x : Str) : Bool :=
  eqOo (PySem.W.findIn K (.ref (cadK K x)) "__getattribute__") (some (some (.builtin "BaseException.__getattribute__"))) && eqOo (PySem.W.findIn K (.ref (cadK K x)) "__getattr__") (some none) && decide (PySem.W.subIn K (.ref (cadK K x)) (.type "BaseException") = some true) && PySem.W.hasDictIn K (cadK K x)
    && eqOo (PySem.W.findIn K (.ref (cadK K x)) "__class__") (some (some (.builtin "object.__class__"))) && eqOo (PySem.W.specialIn K (.builtin "object.__class__") "__get__") (some (some (.builtin "getset_descriptor.__get__"))) && decide (PySem.W.takesIn K (.builtin "object.__class__") = some true) && decide (PySem.W.mroIn K (cadK K x) (.type "object") = some true)
where eqOo (a b : Option (Option Value)) : Bool := decide (a = b)
def kitB (K : PySem.W.Frag) (x y : Str) (b : Bool) : Bool := decide (PySem.W.kitOne K (.ref (cadK K x)) (.ref (cadK K y)) = some b)
def exK (K : PySem.W.Frag) : Bool :=
  PySem.W.excIn K (cadK K "Wrong") exB "Exception.__new__" && PySem.W.keepIn K (.ref (cadK K "Wrong")) && decide (PySem.W.subIn K (.ref (cadK K "Wrong")) (.type "BaseException") = some true) && decide (PySem.W.typeIn K (.ref (cadK K "Wrong")) = some (.type "type"))
    && excB K "BadRun" && kitB K "BadRun" "BadProgram" false && kitB K "BadRun" "BadQuestion" false && kitB K "BadRun" "BadRun" true && kitB K "BadRun" "NotThere" false && decide ((tfL.map fun p => (He.cT K p).2).Nodup)
abbrev rowR : PySem.W.OpenRow := PySem.W.OpenLaw.row PySem.Challenge.rw_truetotype_k65_sending
abbrev hk : PySem.W.Hook := He.hookX 4 faL fnL [] tfL exK
def ob (s : PySem.W.SharedT) : He.AlX := He.obsX 4 faL fnL [] tfL exK (HandSHeadRun.getT s)
theorem ob_eq (s : PySem.W.SharedT) : ob s = hk.obs s.abs := He.obsX_eq (HandSHeadRun.getT_eq s)
def looseL : List Str := ["TypeTroubles", "BadProgram", "BadQuestion", "BadRun", "NotThere", "Wrong", "SIGNS", "is_int", "digits", "written", "sums", "sent", "number_at", "thing_at", "received", "_law_cell", "_law_stream", "_law_draw", "_law_read", "_law_told", "_law_thing", "_law_digits", "_law_write", "_law_sums", "_law_number", "_law_at", "_law_received"]
theorem run_eq (w : World) : HandSHeadRun.RunEq rowR (PySem.W.view rowR.prog [ixOf .f_law]) hk ob 2000 looseL w := by
  intro os
  kernel_rfl
end Sh65
set_option Elab.async false
set_option linter.all false
set_option maxRecDepth 100000
set_option maxHeartbeats 4000000
namespace Sh65
open PySem PySem.Spec PyProof.Rows L2 Sh
theorem dvs_ints {K : PySem.W.Frag} {ρ : List Addr} {H : Hp} : ∀ ns : List Int, DVs K ρ H (ns.map V.int) (ns.map D.int)
  | [] => .nil
  | n :: ns => .cons (.int n) (dvs_ints ns)
/-- the scripts that the law is asked of -/
def Fit (ns : List Int) : Prop := ns.length ≤ 63 ∧ ∀ z ∈ ns, Builtin.Int.intBits z ≤ 1048576
/-- the law's reading says True -/
def Good (N : Nat) : Prop := ∀ ns : List Int, Fit ns → ∀ c, c = Cn.lst (ns.map D.int) ∨ c = Cn.fz (ns.map D.int) → ∃ h', run N .f_law [R.bor c] [] = some (.ok (.d (.bl true)) h')
theorem entry {p : Pm} {H : Hp} {a : Addr} {ns : List Int} (hS : SqL p.K H a (ns.map V.int)) : ∃ c, (c = Cn.lst (ns.map D.int) ∨ c = Cn.fz (ns.map D.int)) ∧ RV p [] H H (.ref a) (.bor c) := by
  rcases hS with (h | ⟨o, h⟩) | h
  · exact ⟨_, .inl rfl, a, rfl, _, dvs_ints ns, h, by simp, trivial⟩
  · exact ⟨_, .inr rfl, a, rfl, _, dvs_ints ns, .inr ⟨⟨o, h⟩, by simp, trivial⟩⟩
  · exact ⟨_, .inr rfl, a, rfl, _, dvs_ints ns, .inl h⟩
/-- the tables, the names of what they hold -/
def tq : List (He.Defn × Str) := [(("written", none), qOf .f_written ++ "<genexpr>"), (("thing_at", none), qOf .f_thing_at ++ "<genexpr>"), (("received", none), qOf .f_received ++ "<genexpr>"), (("law", none), qOf .f_law ++ "<lambda>")]
def TL (K : PySem.W.Frag) : List (Addr × Str) := tq.map fun p => ((He.cT K p.1).2, p.2)
theorem nodup_uniq {α β : Type} : ∀ {l : List (α × β)}, (l.map (·.1)).Nodup → ∀ {a : α} {b : β}, (a, b) ∈ l → ∀ p ∈ l, p.1 = a → p.2 = b
  | [], _, _, _, h, _, _, _ => by cases h
  | (x, y) :: l, nd, a, b, h, p, hp, e => by
    rw [List.map_cons, List.nodup_cons] at nd
    rcases List.mem_cons.mp h with h1 | h1
    · cases h1
      rcases List.mem_cons.mp hp with h2 | h2
      · rw [h2]
      · exact absurd (show x ∈ l.map (·.1) from e ▸ List.mem_map_of_mem h2) nd.1
    · rcases List.mem_cons.mp hp with h2 | h2
      · subst h2
        exact absurd (show x ∈ l.map (·.1) from by rw [show x = a from e]; exact List.mem_map_of_mem (f := Prod.fst) h1) nd.1
      · exact nodup_uniq nd.2 h1 p h2 e
theorem mem_fns : ∀ f : Fn, f ∈ fns := fun f => by cases f <;> decide
theorem tab_of {K : PySem.W.Frag} {base : Heap} {mg : Str → Option Value} {f : Fn} {fd : FuncData} {s : Str} (F : FunD K (nmOf f) (nmOf f) (defArgs (stOf f)) (defBody (stOf f)) (defScope (stOf f)) [] [] (adr K f) fd) (hm : ((nmOf f, none), s) ∈ tq)
    (nd : ((TL K).map (·.1)).Nodup) (tb : LamX.TabB base mg (He.cT K (nmOf f, none)).1 (He.cT K (nmOf f, none)).2) : TabF K base mg (TL K) fd s (He.cT K (nmOf f, none)).1 (He.cT K (nmOf f, none)).2 := by
  obtain ⟨oc, od, dV, kV, doc, pm, an, cdv, ct, osl, e, lk, hcd, _⟩ := F.ex
  obtain ⟨cc, ec⟩ := He.codeIn_ref hcd
  have e2 : fd.code = .ref cc := by rw [e]; exact ec
  have e3 : He.codeOf K (nmOf f, none) = cc := He.codeOf_eq (p := (nmOf f, none)) lk e2
  have hm2 : ((He.cT K (nmOf f, none)).2, s) ∈ TL K := List.mem_map_of_mem (f := fun p : He.Defn × Str => ((He.cT K p.1).2, p.2)) hm
  exact ⟨tb, by rw [e2, ← e3] <;> rfl, hm2, nodup_uniq nd hm2⟩
section
variable {w : World} {K : PySem.W.Frag} {h : Heap} {mg : Str → Option Value}
theorem exK_ok (e : exK K = true) : (PySem.W.excIn K (cadK K "Wrong") exB "Exception.__new__" = true ∧ PySem.W.keepIn K (.ref (cadK K "Wrong")) = true ∧ PySem.W.subIn K (.ref (cadK K "Wrong")) (.type "BaseException") = some true ∧ PySem.W.typeIn K (.ref (cadK K "Wrong")) = some (.type "type"))
    ∧ ExcC K (cadK K "BadRun") ∧ (PySem.W.kitOne K (.ref (cadK K "BadRun")) (.ref (cadK K "BadProgram")) = some false ∧ PySem.W.kitOne K (.ref (cadK K "BadRun")) (.ref (cadK K "BadQuestion")) = some false ∧ PySem.W.kitOne K (.ref (cadK K "BadRun")) (.ref (cadK K "BadRun")) = some true
      ∧ PySem.W.kitOne K (.ref (cadK K "BadRun")) (.ref (cadK K "NotThere")) = some false) ∧ ((tfL.map fun p => (He.cT K p).2).Nodup) := by
  unfold exK excB excB.eqOo kitB at e
  simp only [Bool.and_eq_true, decide_eq_true_eq] at e
  obtain ⟨⟨⟨⟨⟨⟨⟨⟨⟨a1, a2⟩, a3⟩, a4⟩, b⟩, c1⟩, c2⟩, c3⟩, c4⟩, d⟩ := e
  obtain ⟨⟨⟨⟨⟨⟨⟨b1, b2⟩, b3⟩, b4⟩, b5⟩, b6⟩, b7⟩, b8⟩ := b
  exact ⟨⟨a1, a2, a3, a4⟩, ⟨b1, b2, b3, b4, b5, b6, b7, b8⟩, ⟨c1, c2, c3, c4⟩, d⟩
theorem fx_of (X : K.In h) (G : h.Ns mainGlobals mg) (c : He.SaysX faL fnL [] tfL exK w h K) :
    ∃ fd : Fn → FuncData, (∀ f, FunD K (nmOf f) (nmOf f) (defArgs (stOf f)) (defBody (stOf f)) (defScope (stOf f)) [] [] (adr K f) (fd f)) ∧
      ∀ base : Heap, (∀ p ∈ tfL.map (He.cT K), LamX.TabB base mg p.1 p.2) → ∃ Z : Fx K mg base (TL K), Z.fd = fd := by
  have hfd : ∀ f : Fn, ∃ fd : FuncData, FunD K (nmOf f) (nmOf f) (defArgs (stOf f)) (defBody (stOf f)) (defScope (stOf f)) [] [] (adr K f) fd := fun f => c.t.d.defs (d := dOf f) (List.mem_map_of_mem (mem_fns f))
  obtain ⟨fd, hf⟩ := Classical.skolem.mp hfd
  obtain ⟨⟨w1, w2, w3, w4⟩, eB, ⟨k1, k2, k3, k4⟩, nd⟩ := exK_ok c.more
  obtain ⟨tS, gS⟩ := He.str_ok X G (c.t.d.fact 41 (f := .str "SIGNS" k_SIGNS) rfl)
  obtain ⟨x1, x2, x3, x4⟩ := He.exc_ok (c.t.d.fact 42 (f := .exc "BadRun") rfl)
  have nd2 : ((TL K).map (·.1)).Nodup := nd
  refine ⟨fd, hf, fun base ht => ⟨{
    fd := fd, fun_ := hf, mg_ := ?_, binds := ?_, keep := fun f => (hf f).kp,
    no_len := He.free_ok X G (c.t.d.fact 27 (f := .free "len") rfl),
    no_abs := He.free_ok X G (c.t.d.fact 28 (f := .free "abs") rfl),
    no_isinstance := He.free_ok X G (c.t.d.fact 29 (f := .free "isinstance") rfl),
    no_int := He.free_ok X G (c.t.d.fact 30 (f := .free "int") rfl),
    no_str := He.free_ok X G (c.t.d.fact 31 (f := .free "str") rfl),
    no_type := He.free_ok X G (c.t.d.fact 32 (f := .free "type") rfl),
    no_tuple := He.free_ok X G (c.t.d.fact 33 (f := .free "tuple") rfl),
    no_list := He.free_ok X G (c.t.d.fact 34 (f := .free "list") rfl),
    no_range := He.free_ok X G (c.t.d.fact 35 (f := .free "range") rfl),
    no_any := He.free_ok X G (c.t.d.fact 36 (f := .free "any") rfl),
    no_all := He.free_ok X G (c.t.d.fact 37 (f := .free "all") rfl),
    no_reversed := He.free_ok X G (c.t.d.fact 38 (f := .free "reversed") rfl),
    no_enumerate := He.free_ok X G (c.t.d.fact 39 (f := .free "enumerate") rfl),
    no_bool := He.free_ok X G (c.t.d.fact 40 (f := .free "bool") rfl),
    tS := tS, g_SIGNS := gS,
    x_BadRun := ⟨⟨He.veBase, "ValueError", "ValueError.__new__", "ValueError.__init__", PySem.F.excBase_ValueError, x1⟩, He.glo_ok X G (c.t.d.fact 24 (f := .glo "BadRun") rfl), x2, x3, x4⟩,
    x_Wrong := ⟨⟨exB, "Exception", "Exception.__new__", "Exception.__init__", PySem.F.excBase_Exception, w1⟩, He.glo_ok X G (c.t.d.fact 26 (f := .glo "Wrong") rfl), w2, w3, w4⟩,
    m_Wrong := ?_,
    g_Tr := He.glo_ok X G (c.t.d.fact 21 (f := .glo "TypeTroubles") rfl),
    g_BP := He.glo_ok X G (c.t.d.fact 22 (f := .glo "BadProgram") rfl),
    g_BQ := He.glo_ok X G (c.t.d.fact 23 (f := .glo "BadQuestion") rfl),
    g_BR := He.glo_ok X G (c.t.d.fact 24 (f := .glo "BadRun") rfl),
    g_NT := He.glo_ok X G (c.t.d.fact 25 (f := .glo "NotThere") rfl),
    told := ?_, cT := fun f => He.cT K (nmOf f, none), tab_g := ?_, tab_l := ?_ }, rfl⟩⟩
  · intro f
    cases f
    · exact He.glo_ok X G (c.t.d.fact 0 (f := .glo "is_int") rfl)
    · exact He.glo_ok X G (c.t.d.fact 1 (f := .glo "digits") rfl)
    · exact He.glo_ok X G (c.t.d.fact 2 (f := .glo "written") rfl)
    · exact He.glo_ok X G (c.t.d.fact 3 (f := .glo "sums") rfl)
    · exact He.glo_ok X G (c.t.d.fact 4 (f := .glo "sent") rfl)
    · exact He.glo_ok X G (c.t.d.fact 5 (f := .glo "number_at") rfl)
    · exact He.glo_ok X G (c.t.d.fact 6 (f := .glo "thing_at") rfl)
    · exact He.glo_ok X G (c.t.d.fact 7 (f := .glo "received") rfl)
    · exact He.glo_ok X G (c.t.d.fact 8 (f := .glo "_law_cell") rfl)
    · exact He.glo_ok X G (c.t.d.fact 9 (f := .glo "_law_stream") rfl)
    · exact He.glo_ok X G (c.t.d.fact 10 (f := .glo "_law_draw") rfl)
    · exact He.glo_ok X G (c.t.d.fact 11 (f := .glo "_law_read") rfl)
    · exact He.glo_ok X G (c.t.d.fact 12 (f := .glo "_law_told") rfl)
    · exact He.glo_ok X G (c.t.d.fact 13 (f := .glo "_law_thing") rfl)
    · exact He.glo_ok X G (c.t.d.fact 14 (f := .glo "_law_digits") rfl)
    · exact He.glo_ok X G (c.t.d.fact 15 (f := .glo "_law_write") rfl)
    · exact He.glo_ok X G (c.t.d.fact 16 (f := .glo "_law_sums") rfl)
    · exact He.glo_ok X G (c.t.d.fact 17 (f := .glo "_law_number") rfl)
    · exact He.glo_ok X G (c.t.d.fact 18 (f := .glo "_law_at") rfl)
    · exact He.glo_ok X G (c.t.d.fact 19 (f := .glo "_law_received") rfl)
    · exact He.glo_ok X G (c.t.d.fact 20 (f := .glo "law") rfl)
  · intro f
    cases f
    · exact (hf .f_is_int).bindsN fun _ _ _ _ _ _ us hl => match us, hl with | [_], _ => rfl
    · exact (hf .f_digits).bindsN fun _ _ _ _ _ _ us hl => match us, hl with | [_], _ => rfl
    · exact (hf .f_written).bindsN fun _ _ _ _ _ _ us hl => match us, hl with | [_], _ => rfl
    · exact (hf .f_sums).bindsN fun _ _ _ _ _ _ us hl => match us, hl with | [_], _ => rfl
    · exact (hf .f_sent).bindsN fun _ _ _ _ _ _ us hl => match us, hl with | [_], _ => rfl
    · exact (hf .f_number_at).bindsN fun _ _ _ _ _ _ us hl => match us, hl with | [_, _], _ => rfl
    · exact (hf .f_thing_at).bindsN fun _ _ _ _ _ _ us hl => match us, hl with | [_, _], _ => rfl
    · exact (hf .f_received).bindsN fun _ _ _ _ _ _ us hl => match us, hl with | [_], _ => rfl
    · exact (hf .f_law_cell).bindsN fun _ _ _ _ _ _ us hl => match us, hl with | [_, _], _ => rfl
    · exact (hf .f_law_stream).bindsN fun _ _ _ _ _ _ us hl => match us, hl with | [_, _], _ => rfl
    · exact (hf .f_law_draw).bindsN fun _ _ _ _ _ _ us hl => match us, hl with | [_, _], _ => rfl
    · exact (hf .f_law_read).bindsN fun _ _ _ _ _ _ us hl => match us, hl with | [_], _ => rfl
    · exact (hf .f_law_told).bindsN fun _ _ _ _ _ _ us hl => match us, hl with | [_], _ => rfl
    · exact (hf .f_law_thing).bindsN fun _ _ _ _ _ _ us hl => match us, hl with | [_, _], _ => rfl
    · exact (hf .f_law_digits).bindsN fun _ _ _ _ _ _ us hl => match us, hl with | [_], _ => rfl
    · exact (hf .f_law_write).bindsN fun _ _ _ _ _ _ us hl => match us, hl with | [_], _ => rfl
    · exact (hf .f_law_sums).bindsN fun _ _ _ _ _ _ us hl => match us, hl with | [_], _ => rfl
    · exact (hf .f_law_number).bindsN fun _ _ _ _ _ _ us hl => match us, hl with | [_, _], _ => rfl
    · exact (hf .f_law_at).bindsN fun _ _ _ _ _ _ us hl => match us, hl with | [_, _], _ => rfl
    · exact (hf .f_law_received).bindsN fun _ _ _ _ _ _ us hl => match us, hl with | [_], _ => rfl
    · exact (hf .f_law).bindsN fun _ _ _ _ _ _ us hl => match us, hl with | [_], _ => rfl
  · intro cn b e
    unfold m_Wrong at e
    split at e
    · rename_i e2
      cases e
      subst e2
      exact He.exm_ok (c.t.d.fact 43 (f := .exm "Wrong" "Wrong" true) rfl)
    · cases e
  · intro cn nm e
    unfold nmF at e
    split at e
    · rename_i e2
      cases e
      subst e2
      exact ⟨eB, He.exm_ok (c.t.d.fact 44 (f := .exm "BadRun" "TypeTroubles" true) rfl), _, _, _, _, k1, k2, k3, k4, rfl⟩
    · cases e
  · intro f hm
    simp only [List.mem_cons, List.not_mem_nil, or_false] at hm
    rcases hm with rfl | rfl | rfl
    · exact tab_of (hf .f_written) (List.mem_of_getElem? (i := 0) rfl) nd2 (ht _ (List.mem_of_getElem? (i := 0) rfl))
    · exact tab_of (hf .f_thing_at) (List.mem_of_getElem? (i := 1) rfl) nd2 (ht _ (List.mem_of_getElem? (i := 1) rfl))
    · exact tab_of (hf .f_received) (List.mem_of_getElem? (i := 2) rfl) nd2 (ht _ (List.mem_of_getElem? (i := 2) rfl))
  · exact tab_of (hf .f_law) (List.mem_of_getElem? (i := 3) rfl) nd2 (ht _ (List.mem_of_getElem? (i := 3) rfl))
/-- the law's promise at the head -/
theorem law_at {N : Nat} (hgood : Good N) (X : K.In h) (G : h.Ns mainGlobals mg) (c : He.SaysX faL fnL [] tfL exK w h K) {f : Addr} (hfa : mg ("law" : Str) = some (.ref f)) :
    LamX.LawAtS PySem.Challenge.rw_truetotype_k65_sending w K (L2.CX (PySem.Challenge.rw_truetotype_k65_sending).prog w) (4 * (N + 1)) 63 "script" mg f h := by
  obtain ⟨fd, hf, hZ⟩ := fx_of X G c
  have eg := hfa.symm.trans (He.glo_ok X G (c.t.d.fact 20 (f := .glo "law") rfl))
  cases eg
  refine ⟨fd .f_law, tfL.map (He.cT K), spF ⟨K, TL K, cadK K⟩ 1 (run N .f_law), ?_, ?_, ?_, ?_, ?_, ?_⟩
  · intro p hp
    obtain ⟨q, hq, rfl⟩ := List.mem_map.mp hp
    exact c.empty q hq
  · intro p hp
    obtain ⟨q, hq, rfl⟩ := List.mem_map.mp hp
    exact c.out q hq
  · intro p hp
    obtain ⟨q, hq, rfl⟩ := List.mem_map.mp hp
    exact PySem.W.codeHd_of_K X (c.hd q hq)
  · intro s u
    exact FunD.bindsA (ps := ["script"]) (hf .f_law) (fun _ _ _ _ _ _ us hl => match us, hl with | [_], _ => rfl) s [u] rfl
  · intro H a ns hl hb hT hS
    obtain ⟨cn, hcn, hr⟩ := entry (p := ⟨K, TL K, cadK K⟩) hS
    obtain ⟨h', e⟩ := hgood ns ⟨hl, hb⟩ cn hcn
    have tb : LamX.Tabs (TL K) H := fun p hp => by
      obtain ⟨q, hq, rfl⟩ := List.mem_map.mp hp
      exact .nil (hT (He.cT K q.1) (List.mem_map.mpr ⟨q.1, (show q.1 ∈ tfL from by
        have : q.1 ∈ tq.map (·.1) := List.mem_map_of_mem hq
        exact this), rfl⟩))
    refine ⟨rfl, [], [], H, [R.bor cn], ⟨rfl, List.nodup_nil, fun j a o e => by simp at e⟩, tb, .cons hr .nil, ?_⟩
    rw [e]
    intro ρ' H' v _ rv
    cases rv
    rfl
  · intro base hb hN hT
    obtain ⟨Z, eZ⟩ := hZ base hT
    have := ok_all (P := (PySem.Challenge.rw_truetotype_k65_sending).prog) (w := w) Z N .f_law
    rw [← eZ]
    exact this
end
end Sh65
open PySem PySem.W PySem.Calls PyProof.Rows
theorem Sh65.holds (hgood : Sh65.Good 24) : PySem.Challenge.rw_truetotype_k65_sending.Holds := by
  w_on; o_law
  refine HandSHeadRun.head_any (r := OpenLaw.row PySem.Challenge.rw_truetotype_k65_sending) (q := view (OpenLaw.row PySem.Challenge.rw_truetotype_k65_sending).prog [Sh65.ixOf .f_law]) (H := Sh65.hk) (ob := Sh65.ob) (M := 2000) (loose := Sh65.looseL) (d := HandSHeadRun.topDef (OpenLaw.row PySem.Challenge.rw_truetotype_k65_sending).prog (Sh65.ixOf .f_law)) (kwd := []) Sh65.ob_eq
    (by kernel_rfl) (fun s => by kernel_rfl) Sh65.run_eq (by kernel_rfl) (by kernel_rfl) (by kernel_rfl) (by rfl) (by first | assumption | decide +kernel) (by decide +kernel) ⟨rfl, rfl, rfl, rfl, rfl, by decide +kernel⟩ ?hw ?hc
  case hw => w_witness2
  case hc =>
    refine LamX.walk_ofTsE (l := PySem.Challenge.rw_truetotype_k65_sending) (n := 63) (k := 4 * (24 + 1)) (x := "script") (CX := L2.CX (PySem.Challenge.rw_truetotype_k65_sending).prog) rfl (by decide) (by kernel_rfl) ⟨rfl, by decide, by decide⟩ ?F ?C
    case C =>
      intro w H s e s' hc
      obtain ⟨_, _, _, _, _, _, _, _, _, _, _, _, z⟩ := hc
      exact z
    intro w mg fa h Y G hmg0
    obtain ⟨K, KX, c⟩ := Y
    have hmg : mg ("law" : PySem.Str) = some (.ref fa) := by
      have e : (HandSHeadRun.topDef (OpenLaw.row PySem.Challenge.rw_truetotype_k65_sending).prog (Sh65.ixOf .f_law)).name = ("law" : PySem.Str) := by kernel_rfl
      rw [← e]
      exact hmg0
    exact ⟨K, KX, Sh65.law_at hgood KX G c hmg⟩
theorem PySem.Challenge.cw_truetotype_k65_sending_holds : PySem.Challenge.rw_truetotype_k65_sending.Holds :=
  Sh65.holds fun ns _ c hc => Sh65.law_goodT ns c hc
