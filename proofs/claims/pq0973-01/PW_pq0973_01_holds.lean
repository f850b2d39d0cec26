import PyProof.Rows.All
import Wide.All
import OpenK.AllK
import Wide.FinOn
import PySem.Challenge.RW_pq0973_01
set_option Elab.async false
section
open PySem PyProof.Rows
set_option linter.unusedVariables false
set_option linter.unusedSimpArgs false
namespace Mine
inductive Dt where
  | none
  | bool (b : Bool)
  | int (i : Int)
  | bytes (l : List UInt8)
  | tup (ds : List Dt)
  | lst (ds : List Dt)
  | hd (k : Nat)
noncomputable abbrev Kn := Addr → Option Obj
noncomputable def lim : Nat := 4194304
mutual
inductive Rd (hv : Nat → Value) (K : Kn) : Value → Dt → Prop
  | none : Rd hv K Value.none Dt.none
  | bool (b : Bool) : Rd hv K (Value.bool b) (Dt.bool b)
  | int (i : Int) (t : Tok) : Rd hv K (Value.int i t) (Dt.int i)
  | bytes {b : Array UInt8} {l : List UInt8} (t : Tok) : b = l.toArray → l.length ≤ lim → Rd hv K (Value.bytes b t) (Dt.bytes l)
  | tup {a : Addr} {o : Obj} {vs : List Value} {n : Nat} {ds : List Dt} : K a = some o → o.cls = Value.type "tuple" → o.data = Data.seq vs.toArray n → ds.length ≤ lim → Rds hv K vs ds → Rd hv K (Value.ref a) (Dt.tup ds)
  | lst {a : Addr} {o : Obj} {vs : List Value} {n : Nat} {ds : List Dt} : K a = some o → o.cls = Value.type "list" → o.data = Data.seq vs.toArray n → ds.length ≤ lim → Rds hv K vs ds → Rd hv K (Value.ref a) (Dt.lst ds)
  | hd {v : Value} (k : Nat) : v = hv k → Rd hv K v (Dt.hd k)
inductive Rds (hv : Nat → Value) (K : Kn) : List Value → List Dt → Prop
  | nil : Rds hv K [] []
  | cons {v : Value} {vs : List Value} {d : Dt} {ds : List Dt} : Rd hv K v d → Rds hv K vs ds → Rds hv K (v :: vs) (d :: ds)
end
noncomputable def KLe (K K' : Kn) : Prop := ∀ a o, K a = some o → K' a = some o
theorem KLe.refl (K : Kn) : KLe K K := fun _ _ e => e
theorem KLe.trans {K K' K'' : Kn} (x : KLe K K') (y : KLe K' K'') : KLe K K'' := fun a o e => y a o (x a o e)
mutual
theorem Rd.mono {hv : Nat → Value} {K K' : Kn} (k : KLe K K') : ∀ {v : Value} {d : Dt}, Rd hv K v d → Rd hv K' v d
  | _, _, .none => .none
  | _, _, .bool b => .bool b
  | _, _, .int i t => .int i t
  | _, _, .bytes t e l => .bytes t e l
  | _, _, .tup e c d l r => .tup (k _ _ e) c d l (Rds.mono k r)
  | _, _, .lst e c d l r => .lst (k _ _ e) c d l (Rds.mono k r)
  | _, _, .hd j e => .hd j e
theorem Rds.mono {hv : Nat → Value} {K K' : Kn} (k : KLe K K') : ∀ {vs : List Value} {ds : List Dt}, Rds hv K vs ds → Rds hv K' vs ds
  | _, _, .nil => .nil
  | _, _, .cons h r => .cons (Rd.mono k h) (Rds.mono k r)
end
section
variable {hv : Nat → Value} {K : Kn} {v : Value} {vs ws : List Value} {d : Dt} {ds es : List Dt}
theorem Rds.length (h : Rds hv K vs ds) : vs.length = ds.length := by
  induction vs generalizing ds with
  | nil => cases h; rfl
  | cons v vs ih => cases h with | cons _ r => simp [ih r]
theorem Rds.append (h : Rds hv K vs ds) (k : Rds hv K ws es) : Rds hv K (vs ++ ws) (ds ++ es) := by
  induction vs generalizing ds with
  | nil => cases h; exact k
  | cons v vs ih => cases h with | cons h r => exact .cons h (ih r)
theorem Rds.one (h : Rd hv K v d) : Rds hv K [v] [d] := .cons h .nil
theorem Rds.get (h : Rds hv K vs ds) {i : Nat} (e : ds[i]? = some d) : ∃ v, vs[i]? = some v ∧ Rd hv K v d := by
  induction vs generalizing ds i with
  | nil => cases h; simp at e
  | cons v vs ih =>
    cases h with
    | cons h r =>
      cases i with
      | zero => simp at e; subst e; exact ⟨v, rfl, h⟩
      | succ i => simpa using ih r (by simpa using e)
theorem Rds.get' (h : Rds hv K vs ds) {i : Nat} (e : vs[i]? = some v) : ∃ d, ds[i]? = some d ∧ Rd hv K v d := by
  induction vs generalizing ds i with
  | nil => simp at e
  | cons v vs ih =>
    cases h with
    | cons h r =>
      cases i with
      | zero => simp at e; subst e; exact ⟨_, rfl, h⟩
      | succ i => simpa using ih r (by simpa using e)
theorem Rds.set (h : Rds hv K vs ds) (r : Rd hv K v d) (i : Nat) : Rds hv K (vs.set i v) (ds.set i d) := by
  induction vs generalizing ds i with
  | nil => cases h; exact .nil
  | cons v vs ih =>
    cases h with
    | cons h r' =>
      cases i with
      | zero => exact .cons r r'
      | succ i => exact .cons h (ih r' i)
theorem Rds.reverse (h : Rds hv K vs ds) : Rds hv K vs.reverse ds.reverse := by
  induction vs generalizing ds with
  | nil => cases h; exact .nil
  | cons v vs ih => cases h with | cons h r => rw [List.reverse_cons, List.reverse_cons]; exact (ih r).append (.one h)
theorem Rds.take (h : Rds hv K vs ds) (n : Nat) : Rds hv K (vs.take n) (ds.take n) := by
  induction vs generalizing ds n with
  | nil => cases h; simpa using Rds.nil
  | cons v vs ih =>
    cases h with
    | cons h r =>
      cases n with
      | zero => exact .nil
      | succ n => exact .cons h (ih r n)
theorem Rds.drop (h : Rds hv K vs ds) (n : Nat) : Rds hv K (vs.drop n) (ds.drop n) := by
  induction vs generalizing ds n with
  | nil => cases h; simpa using Rds.nil
  | cons v vs ih =>
    cases h with
    | cons h r =>
      cases n with
      | zero => exact .cons h r
      | succ n => exact ih r n
theorem Rd.int_inv {i : Int} (h : Rd hv K v (.int i)) : ∃ t, v = .int i t := by cases h; exact ⟨_, rfl⟩
theorem Rd.bool_inv {b : Bool} (h : Rd hv K v (.bool b)) : v = .bool b := by cases h; rfl
theorem Rd.none_inv (h : Rd hv K v .none) : v = .none := by cases h; rfl
theorem Rd.bytes_inv {l : List UInt8} (h : Rd hv K v (.bytes l)) : ∃ t, v = .bytes l.toArray t ∧ l.length ≤ lim := by
  cases h with | bytes t e hl => exact ⟨t, by rw [e], hl⟩
theorem Rd.tup_inv (h : Rd hv K v (.tup ds)) : ∃ a o vs n, v = .ref a ∧ K a = some o ∧ o.cls = Value.type "tuple" ∧ o.data = Data.seq vs.toArray n ∧ ds.length ≤ lim ∧ Rds hv K vs ds := by
  cases h with | tup e c d l r => exact ⟨_, _, _, _, rfl, e, c, d, l, r⟩
theorem Rd.lst_inv (h : Rd hv K v (.lst ds)) : ∃ a o vs n, v = .ref a ∧ K a = some o ∧ o.cls = Value.type "list" ∧ o.data = Data.seq vs.toArray n ∧ ds.length ≤ lim ∧ Rds hv K vs ds := by
  cases h with | lst e c d l r => exact ⟨_, _, _, _, rfl, e, c, d, l, r⟩
noncomputable def dints (ns : List Int) : List Dt := ns.map Dt.int
theorem Rds.ints_inv {ns : List Int} (h : Rds hv K vs (dints ns)) : IntsAre vs ns := by
  induction ns generalizing vs with
  | nil => cases h; exact .nil
  | cons n r ih =>
    cases h with
    | cons h r' =>
      obtain ⟨t, rfl⟩ := h.int_inv
      exact .cons _ _ (ih r')
end
noncomputable abbrev Ro := List (Str × Option Dt)
noncomputable def Ro.get (ρ : Ro) (x : Str) : Option Dt := match ρ.lookup x with
  | some (some d) => some d
  | _ => none
noncomputable def Ro.set (ρ : Ro) (x : Str) (d : Dt) : Option Ro := match ρ with
  | [] => none
  | (y, e) :: r => if x == y then some ((y, some d) :: r) else (Ro.set r x d).map ((y, e) :: ·)
theorem Ro.get_set {ρ ρ' : Ro} {x : Str} {d : Dt} (h : Ro.set ρ x d = some ρ') (y : Str) : ρ'.get y = if y = x then some d else ρ.get y := by
  induction ρ generalizing ρ' with
  | nil => cases h
  | cons p r ih =>
    obtain ⟨z, e⟩ := p
    unfold Ro.set at h
    by_cases hx : x = z
    · subst hx
      simp only [beq_self_eq_true, if_true, Option.some.injEq] at h
      subst h
      by_cases hy : y = x
      · subst hy; simp [Ro.get]
      · have hb : (y == x) = false := by simpa using hy
        simp [Ro.get, List.lookup_cons, hy, hb]
    · have hb : (x == z) = false := by simpa using hx
      simp only [hb, Bool.false_eq_true, if_false, Option.map_eq_some_iff] at h
      obtain ⟨r', h1, rfl⟩ := h
      have ih' := ih h1
      by_cases hy : y = z
      · subst hy
        have : ¬ y = x := fun e => hx e.symm
        simp [Ro.get, List.lookup_cons, this]
      · have hb' : (y == z) = false := by simpa using hy
        simpa [Ro.get, List.lookup_cons, hb'] using ih'
noncomputable def Room (A : Around) (n : Nat) : Prop := A.depth + n < recursionLimit ∧ A.units + 100 * n + 100 < cLine
noncomputable def builtF : List (Str × Value) := [("len", .builtin "len"), ("max", .builtin "max"), ("min", .builtin "min"), ("sum", .builtin "sum"), ("any", .builtin "any"), ("sorted", .builtin "sorted"), ("abs", .builtin "abs"),
  ("list", .type "list"), ("range", .type "range"), ("enumerate", .type "enumerate"), ("bytes", .type "bytes"), ("bytearray", .type "bytearray")]
structure Cx (σ : Type) where
  lv : Nat
  prog : Program
  w : World
  A : Around
  env : Env
  g₀ : Heap
  mg : Str → Option Value
  mb : Str → Option Value
  stc : List (Str × Addr)
  hv : Nat → Value
  fp : List Addr
  Sg : σ → Heap → Prop
structure Cx.Ok {σ : Type} (C : Cx σ) : Prop where
  hh : C.A.handled = none
  room : Room C.A C.lv
  bl : ∀ x v, builtF.lookup x = some v → C.mg x = none ∧ C.mb x = some v
  kind : C.env.scope.kind = .function
  glob : C.env.globals = mainGlobals
  bui : C.env.builtins = builtinsNs
  g : C.g₀.Ns mainGlobals C.mg
  b : C.g₀.Ns builtinsNs C.mb
  sgk : ∀ st h h', (∀ a ∈ C.fp, ∀ o, h.get? a = some o → h'.get? a = some o) → C.Sg st h → C.Sg st h'
  cl : ∀ p ∈ C.stc, C.env.cells.lookup p.1 = some p.2
  ci : ∀ p ∈ C.stc, ∀ y, C.env.cells.lookup y = some p.2 → y = p.1
  cf : ∀ x c, C.env.cells.lookup x = some c → c ∉ C.fp
theorem Cx.Ok.un {σ : Type} {C : Cx σ} (o : C.Ok) : C.A.units + 100 < cLine := by have := o.room.2; omega
noncomputable abbrev fnd : Str := "found"
noncomputable abbrev lobj (vs : List Value) (n : Nat) : Obj := { cls := .type "list", data := .seq vs.toArray n }
noncomputable def Look {σ : Type} (C : Cx σ) (m : Str → Option Value) (h : Heap) (x : Str) (v : Value) : Prop :=
  (C.env.kindOf x = some .local ∧ m x = some v) ∨
  ((C.env.kindOf x = some .cell ∨ (C.env.kindOf x = some .free ∧ (x == ("__classdict__" : Str)) = false)) ∧ ∃ c, C.env.cells.lookup x = some c ∧ h.IsCell c (some v))
noncomputable def ownL {σ : Type} (C : Cx σ) (fa : Addr) (fo : Option (List Dt)) : List Addr :=
  C.env.locals :: (C.stc.map (·.2) ++ (match fo with | some _ => [fa] | none => []))
structure St {σ : Type} (C : Cx σ) (B : Heap) (mu : List Addr) (K₀ : Kn) (fa : Addr) (ρ : Ro) (fo : Option (List Dt)) (K : Kn) (st : σ) (h : Heap) : Prop where
  ok : C.Ok
  base : ∀ b o, B.get? b = some o → b ∉ mu → b ∉ C.fp → h.get? b = some o
  ex : ∀ b, (B.get? b).isSome = true → (h.get? b).isSome = true
  kx : ∀ a o, K a = some o → K₀ a = some o ∨ B.get? a = none ∨ a ∈ mu
  kn : ∀ a o, K a = some o → h.get? a = some o
  top : ∀ a o, C.g₀.get? a = some o → K a = some o
  mt : ∀ a ∈ ownL C fa fo ++ C.fp, K a = none ∧ (h.get? a).isSome = true
  ow : ∀ a ∈ ownL C fa fo, a ∈ mu ∨ B.get? a = none
  nd : (ownL C fa fo ++ C.fp).Nodup
  fr : ∃ m, h.Ns C.env.locals m ∧ (∀ x d, ρ.get x = some d → ∃ v, Look C m h x v ∧ Rd C.hv K v d) ∧ (∀ ds, fo = some ds → Look C m h fnd (.ref fa))
  fl : ∀ ds, fo = some ds → ∃ vs n, h.get? fa = some (lobj vs n) ∧ ds.length ≤ lim ∧ Rds C.hv K vs ds
  ce : ∀ p ∈ C.stc, ∃ v, h.IsCell p.2 v
  sg : C.Sg st h
section
variable {σ : Type} {C : Cx σ} {B : Heap} {mu : List Addr} {K₀ : Kn} {fa : Addr} {ρ : Ro} {fo : Option (List Dt)} {K : Kn} {st : σ} {h h' : Heap}
theorem St.L_mem : C.env.locals ∈ ownL C fa fo := List.mem_cons_self
theorem St.L_fp (S : St C B mu K₀ fa ρ fo K st h) : C.env.locals ∉ C.fp := fun hm => by
  have := S.nd
  rw [List.nodup_append] at this
  exact this.2.2 _ (St.L_mem (C := C) (fa := fa) (fo := fo)) _ hm rfl
theorem cell_ne {c L : Addr} {m : Str → Option Value} {v : Option Value} (n : h.Ns L m) (i : h.IsCell c v) : c ≠ L := by
  rintro rfl
  obtain ⟨o, es, ep, ho, hd, _⟩ := n
  obtain ⟨o', ho', hd'⟩ := i
  rw [ho] at ho'; cases ho'
  rw [hd] at hd'; cases hd'
theorem list_ne {a L : Addr} {m : Str → Option Value} {vs : List Value} {k : Nat} (n : h.Ns L m) (i : h.get? a = some (lobj vs k)) : a ≠ L := by
  rintro rfl
  obtain ⟨o, es, ep, ho, hd, _⟩ := n
  rw [ho] at i; cases i
  cases hd
/-- all but the frame's own object stay; what the frame says is told anew -/
theorem St.change {ρ' : Ro} {m' : Str → Option Value} (S : St C B mu K₀ fa ρ fo K st h) (hk : ∀ b o, h.get? b = some o → b ≠ C.env.locals → h'.get? b = some o) (hn : h'.Ns C.env.locals m')
    (hr : ∀ m, h.Ns C.env.locals m → (∀ x v, Look C m h x v → ((C.env.kindOf x = some .local → m' x = some v) → Look C m' h' x v)) →
      (∀ x d, ρ'.get x = some d → ∃ v, Look C m' h' x v ∧ Rd C.hv K v d) ∧ (∀ ds, fo = some ds → Look C m' h' fnd (.ref fa))) :
    St C B mu K₀ fa ρ' fo K st h' := by
  obtain ⟨m, hm, _, _⟩ := id S.fr
  have hL : (h'.get? C.env.locals).isSome = true := by obtain ⟨o, _, _, ho, _⟩ := hn; rw [ho]; rfl
  have ks : ∀ b, (h.get? b).isSome = true → (h'.get? b).isSome = true := fun b hb => by
    by_cases e : b = C.env.locals
    · rw [e]; exact hL
    · obtain ⟨o, ho⟩ := Option.isSome_iff_exists.mp hb
      rw [hk b o ho e]; rfl
  have hL' : ∀ a o, K a = some o → a ≠ C.env.locals := fun a o e q => by
    have := (S.mt a (List.mem_append.mpr (.inl (q ▸ St.L_mem)))).1
    rw [e] at this; cases this
  have ck : ∀ c v, h.IsCell c v → h'.IsCell c v := fun c v i => by
    obtain ⟨o, ho, hd⟩ := id i
    exact ⟨o, hk c o ho (cell_ne hm i), hd⟩
  have lk : ∀ x v, Look C m h x v → ((C.env.kindOf x = some .local → m' x = some v) → Look C m' h' x v) := fun x v l q => l.imp (fun z => ⟨z.1, q z.1⟩) fun ⟨a, c, b, i⟩ => ⟨a, c, b, ck _ _ i⟩
  obtain ⟨r1, r2⟩ := hr m hm lk
  exact {
    ok := S.ok
    base := fun b o e hb hf => hk b o (S.base b o e hb hf) fun q => by
      rcases S.ow b (q ▸ St.L_mem) with z | z
      · exact hb z
      · rw [z] at e; cases e
    ex := fun b hb => ks b (S.ex b hb)
    kx := S.kx
    kn := fun a o e => hk a o (S.kn a o e) (hL' a o e)
    top := S.top
    mt := fun a ha => ⟨(S.mt a ha).1, ks a (S.mt a ha).2⟩
    ow := S.ow
    nd := S.nd
    fr := ⟨m', hn, r1, r2⟩
    fl := fun ds e => let ⟨vs, n, q, r⟩ := S.fl ds e; ⟨vs, n, hk fa _ q (list_ne hm q), r⟩
    ce := fun p hp => let ⟨v, i⟩ := S.ce p hp; ⟨v, ck _ _ i⟩
    sg := S.ok.sgk st h h' (fun a ha o e => hk a o e fun q => S.L_fp (q ▸ ha)) S.sg }
theorem ns_uniq {h : Heap} {L : Addr} {m m' : Str → Option Value} (x : h.Ns L m) (y : h.Ns L m') : m = m' := by
  obtain ⟨o, es, ep, ho, hd, _, hf⟩ := x
  obtain ⟨o', es', ep', ho', hd', _, hf'⟩ := y
  rw [ho] at ho'; cases ho'
  rw [hd] at hd'; cases hd'
  funext x; rw [← hf, ← hf']
theorem St.grow (S : St C B mu K₀ fa ρ fo K st h) (hk : ∀ b o, h.get? b = some o → b ≠ C.env.locals → h'.get? b = some o) (hn : ∀ m, h.Ns C.env.locals m → h'.Ns C.env.locals m) :
    St C B mu K₀ fa ρ fo K st h' := by
  obtain ⟨m, hm, hr, hf⟩ := id S.fr
  refine S.change hk (hn m hm) fun m₁ hm₁ lk => ?_
  have e := ns_uniq hm hm₁
  subst e
  have lk' : ∀ x v, Look C m h x v → Look C m h' x v := fun x v l => lk x v l fun hk => by
    rcases l with ⟨_, q⟩ | ⟨q | ⟨q, _⟩, _⟩
    · exact q
    · rw [hk] at q; cases q
    · rw [hk] at q; cases q
  exact ⟨fun x d e => let ⟨v, l, r⟩ := hr x d e; ⟨v, lk' x v l, r⟩, fun ds e => lk' _ _ (hf ds e)⟩
theorem St.keeps (S : St C B mu K₀ fa ρ fo K st h) (hk : ∀ b o, h.get? b = some o → h'.get? b = some o) : St C B mu K₀ fa ρ fo K st h' :=
  S.grow (fun b o e _ => hk b o e) fun _ n => n.keeps hk
noncomputable def kadd (K : Kn) (a : Addr) (o : Obj) : Kn := fun b => if b = a then some o else K b
theorem kadd_self (K : Kn) (a : Addr) (o : Obj) : kadd K a o a = some o := if_pos rfl
theorem St.kfresh (S : St C B mu K₀ fa ρ fo K st h) {a : Addr} (hn : h.get? a = none) : K a = none := by
  cases e : K a with
  | none => rfl
  | some o => have := S.kn a o e; rw [hn] at this; cases this
/-- a new object, kept for good -/
theorem St.add (S : St C B mu K₀ fa ρ fo K st h) {a : Addr} {o : Obj} (hn : h.get? a = none) (S' : St C B mu K₀ fa ρ fo K st h') (ho : h'.get? a = some o) :
    KLe K (kadd K a o) ∧ St C B mu K₀ fa ρ fo (kadd K a o) st h' := by
  have ka := S.kfresh hn
  have le : KLe K (kadd K a o) := fun b o' e => by
    unfold kadd
    rw [if_neg (fun q => by rw [q, ka] at e; cases e)]; exact e
  have ne : ∀ b ∈ ownL C fa fo ++ C.fp, b ≠ a := fun b hb q => by
    have := (S.mt b hb).2
    rw [q, hn] at this; cases this
  refine ⟨le, ?_⟩
  obtain ⟨m, hm, hr, hf⟩ := S'.fr
  exact {
    ok := S'.ok
    base := S'.base
    ex := S'.ex
    kx := fun b o' e => by
      unfold kadd at e
      by_cases q : b = a
      · right; left
        rw [q]
        cases z : B.get? a with
        | none => rfl
        | some x => have := S.ex a (by rw [z]; rfl); rw [hn] at this; cases this
      · rw [if_neg q] at e; exact S'.kx b o' e
    kn := fun b o' e => by
      unfold kadd at e
      by_cases q : b = a
      · rw [if_pos q] at e; cases e; rw [q]; exact ho
      · rw [if_neg q] at e; exact S'.kn b o' e
    top := fun b o' e => le b o' (S'.top b o' e)
    mt := fun b hb => ⟨by unfold kadd; rw [if_neg (ne b hb)]; exact (S'.mt b hb).1, (S'.mt b hb).2⟩
    ow := S'.ow
    nd := S'.nd
    fr := ⟨m, hm, fun x d e => let ⟨v, l, r⟩ := hr x d e; ⟨v, l, r.mono le⟩, hf⟩
    fl := fun ds e => let ⟨vs, n, q, z, r⟩ := S'.fl ds e; ⟨vs, n, q, z, r.mono le⟩
    ce := S'.ce
    sg := S'.sg }
end
end Mine
end
section
open PySem PyProof.Rows
set_option linter.unusedVariables false
set_option linter.unusedSimpArgs false
namespace Mine
section
variable {σ : Type}
noncomputable def Tv (C : Cx σ) (ρ : Ro) (fo : Option (List Dt)) (st : σ) (t : Sem Value) (d : Dt) (st' : σ) : Prop :=
  ∀ (B : Heap) (mu : List Addr) (K₀ : Kn) (fa : Addr) (K : Kn) (s : Shared) (Q E : Value → Shared → Prop), St C B mu K₀ fa ρ fo K st s.heap →
    (∀ v h' tk K', KLe K K' → St C B mu K₀ fa ρ fo K' st' h' → Rd C.hv K' v d → Q v { s with heap := h', toks := tk }) → wpAny (model C.prog C.w) C.A t Q E s
noncomputable abbrev Ev (C : Cx σ) (ρ : Ro) (fo : Option (List Dt)) (st : σ) (e : Expr) (d : Dt) (st' : σ) : Prop := Tv C ρ fo st (eval e C.env) d st'
noncomputable def Tb (C : Cx σ) (ρ : Ro) (fo : Option (List Dt)) (st : σ) (t : Sem Bool) (b : Bool) (st' : σ) : Prop :=
  ∀ (B : Heap) (mu : List Addr) (K₀ : Kn) (fa : Addr) (K : Kn) (s : Shared) (Q : Bool → Shared → Prop) (E : Value → Shared → Prop), St C B mu K₀ fa ρ fo K st s.heap →
    (∀ h' tk K', KLe K K' → St C B mu K₀ fa ρ fo K' st' h' → Q b { s with heap := h', toks := tk }) → wpAny (model C.prog C.w) C.A t Q E s
noncomputable abbrev Tst (C : Cx σ) (ρ : Ro) (fo : Option (List Dt)) (st : σ) (e : Expr) (b : Bool) (st' : σ) : Prop := Tb C ρ fo st (isTrue e C.env (eval e C.env)) b st'
noncomputable def Tl (C : Cx σ) (ρ : Ro) (fo : Option (List Dt)) (st : σ) (t : Sem (List Value)) (ds : List Dt) (st' : σ) : Prop :=
  ∀ (B : Heap) (mu : List Addr) (K₀ : Kn) (fa : Addr) (K : Kn) (s : Shared) (Q : List Value → Shared → Prop) (E : Value → Shared → Prop), St C B mu K₀ fa ρ fo K st s.heap →
    (∀ vs h' tk K', KLe K K' → St C B mu K₀ fa ρ fo K' st' h' → Rds C.hv K' vs ds → Q vs { s with heap := h', toks := tk }) → wpAny (model C.prog C.w) C.A t Q E s
end
noncomputable def e0 : Heap := {}
theorem e0_none (b : Addr) : e0.get? b = none := by simp [e0, Heap.get?]
noncomputable def allBut (L : Addr) (h : Heap) : List (Addr × Obj) := (List.range h.objs.size).filterMap fun a => if a = L then none else (h.get? a).map fun o => (a, o)
theorem mem_allBut {L : Addr} {h : Heap} {a : Addr} {o : Obj} : (a, o) ∈ allBut L h ↔ a ≠ L ∧ h.get? a = some o := by
  unfold allBut
  rw [List.mem_filterMap]
  constructor
  · rintro ⟨b, hb, e⟩
    by_cases q : b = L
    · rw [if_pos q] at e; cases e
    · rw [if_neg q] at e
      obtain ⟨o', ho, e'⟩ := Option.map_eq_some_iff.mp e
      cases e'
      exact ⟨q, ho⟩
  · rintro ⟨q, ho⟩
    exact ⟨a, List.mem_range.mpr (Heap.lt_size ho), by rw [if_neg q, ho]; rfl⟩
theorem fr_e0 {h : Heap} {L : Addr} {m : Str → Option Value} (n : h.Ns L m) : Fr e0 L h m := ⟨n, fun b o e => (by rw [e0_none] at e; cases e), Nat.zero_le _⟩
theorem news_e0 (L : Addr) (h : Heap) : News e0 L h (allBut L h) := fun p hp => by
  obtain ⟨a, o⟩ := p
  have := mem_allBut.mp hp
  exact ⟨this.2, this.1, e0_none _⟩
section
variable {σ : Type} {C : Cx σ} {B : Heap} {mu : List Addr} {K₀ : Kn} {fa : Addr} {ρ : Ro} {fo : Option (List Dt)} {K : Kn} {st : σ} {h h' : Heap} {m : Str → Option Value} {news : List (Addr × Obj)}
theorem St.lib (S : St C B mu K₀ fa ρ fo K st h) (hm : h.Ns C.env.locals m) (F : Fr e0 C.env.locals h' m) (N : News e0 C.env.locals h' news) (hs : ∀ p ∈ allBut C.env.locals h, p ∈ news) : St C B mu K₀ fa ρ fo K st h' :=
  S.grow (fun b o e hb => (N (b, o) (hs _ (mem_allBut.mpr ⟨hb, e⟩))).1) fun m' n' => by rw [← ns_uniq hm n']; exact F.ns
theorem St.none_of_gt (S : St C B mu K₀ fa ρ fo K st h) {D : Addr} {o : Obj} (hm : h.Ns C.env.locals m) (hD : D ≠ C.env.locals) (hl : ∀ p ∈ allBut C.env.locals h, p.1 < D) : h.get? D = none := by
  cases e : h.get? D with
  | none => rfl
  | some o => exact absurd (hl (D, o) (mem_allBut.mpr ⟨hD, e⟩)) (Nat.lt_irrefl _)
theorem St.gk (S : St C B mu K₀ fa ρ fo K st h) : ∀ b o, C.g₀.get? b = some o → h.get? b = some o := fun b o e => S.kn b o (S.top b o e)
theorem St.pushed (S : St C B mu K₀ fa ρ fo K st h) (o : Obj) : St C B mu K₀ fa ρ fo K st (h.push o) := S.keeps fun _ _ e => Heap.get?_push_of_some _ e
theorem size_none (h : Heap) : h.get? h.objs.size = none := by
  cases e : h.get? h.objs.size with
  | none => rfl
  | some o => exact absurd (Heap.lt_size e) (Nat.lt_irrefl _)
theorem St.push (S : St C B mu K₀ fa ρ fo K st h) (o : Obj) (hf : o.isFreed = false := by rfl) : KLe K (kadd K h.objs.size o) ∧ St C B mu K₀ fa ρ fo (kadd K h.objs.size o) st (h.push o) :=
  S.add (size_none h) (S.pushed o) (Heap.get?_push_size h hf)
theorem lim_line {n : Nat} (h : n ≤ lim) : n ≤ sizeLine := by rw [sizeLine_eq]; unfold lim at h; omega
end
section
variable {σ : Type} {C : Cx σ} {ρ : Ro} {fo : Option (List Dt)} {st st1 st2 st3 : σ}
theorem Ev.cint {i : Int} {k : Nat} {pos : Pos} : Ev C ρ fo st (.Constant (.int i) k pos) (.int i) st := fun B mu K₀ fa K s Q E S h =>
  wpAny_Constant_int (h _ s.heap _ K (.refl _) S (.int ..))
theorem Ev.cbool {b : Bool} {k : Nat} {pos : Pos} : Ev C ρ fo st (.Constant (.bool b) k pos) (.bool b) st := fun B mu K₀ fa K s Q E S h =>
  Constant_bool (h _ s.heap _ K (.refl _) S (.bool ..))
theorem Ev.cnone {k : Nat} {pos : Pos} : Ev C ρ fo st (.Constant .none k pos) .none st := fun B mu K₀ fa K s Q E S h =>
  Constant_none (h _ s.heap _ K (.refl _) S .none)
theorem St.look {B : Heap} {mu : List Addr} {K₀ : Kn} {fa : Addr} {K : Kn} {x : Str} {v : Value} {m : Str → Option Value} {s : Shared} {Q E : Value → Shared → Prop} (S : St C B mu K₀ fa ρ fo K st s.heap)
    (hm : s.heap.Ns C.env.locals m) (l : Look C m s.heap x v) (h : Q v s) : wpAny (model C.prog C.w) C.A (loadName C.env x) Q E s := by
  rcases l with ⟨hk, e⟩ | ⟨hk | ⟨hk, hc⟩, c, hc', i⟩
  · exact wpAny_loadName_local S.ok.kind hk hm e h
  · exact wpAny_loadName_cell S.ok.kind hk hc' i h
  · exact wpAny_loadName_free S.ok.kind hk hc' i h hc
theorem Ev.name {x : Str} {pos : Pos} {d : Dt} (hx : ρ.get x = some d) (hd : (x == ("__debug__" : Str)) = false := by decide) : Ev C ρ fo st (.Name x pos) d st := fun B mu K₀ fa K s Q E S h => by
  obtain ⟨m, hm, hr, _⟩ := S.fr
  obtain ⟨v, l, r⟩ := hr x d hx
  exact wpAny_Name (S.look hm l (h v s.heap s.toks K (.refl _) S r)) hd
theorem St.globName {B : Heap} {mu : List Addr} {K₀ : Kn} {fa : Addr} {K : Kn} {x : Str} {v : Value} {pos : Pos} {s : Shared} {Q E : Value → Shared → Prop} (S : St C B mu K₀ fa ρ fo K st s.heap)
    (hk : C.env.kindOf x = some .globalImplicit) (hv : C.mg x = some v) (h : Q v s) (hd : (x == ("__debug__" : Str)) = false) : wpAny (model C.prog C.w) C.A (eval (.Name x pos) C.env) Q E s :=
  Calls.Name_function_global S.ok.kind hk (Calls.loadGlobal_global (mg := C.mg) (by rw [S.ok.glob]; exact S.ok.g.keeps S.gk) hv h) hd
theorem St.builtName {B : Heap} {mu : List Addr} {K₀ : Kn} {fa : Addr} {K : Kn} {x : Str} {v : Value} {pos : Pos} {s : Shared} {Q E : Value → Shared → Prop} (S : St C B mu K₀ fa ρ fo K st s.heap)
    (hk : C.env.kindOf x = some .globalImplicit) (hn : C.mg x = none) (hv : C.mb x = some v) (h : Q v s) (hd : (x == ("__debug__" : Str)) = false) : wpAny (model C.prog C.w) C.A (eval (.Name x pos) C.env) Q E s :=
  Calls.Name_function_global S.ok.kind hk (Calls.loadGlobal_builtin (mg := C.mg) (mb := C.mb) (by rw [S.ok.glob]; exact S.ok.g.keeps S.gk) hn (by rw [S.ok.bui]; exact S.ok.b.keeps S.gk) hv h) hd
theorem Ev.glob {x : Str} {pos : Pos} {v : Value} {d : Dt} (hv : C.mg x = some v) (r : Rd C.hv C.g₀.get? v d) (hk : C.env.kindOf x = some .globalImplicit := by rfl) (hd : (x == ("__debug__" : Str)) = false := by decide) :
    Ev C ρ fo st (.Name x pos) d st := fun B mu K₀ fa K s Q E S h => S.globName hk hv (h v s.heap s.toks K (.refl _) S (r.mono S.top)) hd
inductive BinR : Operator → Dt → Dt → Dt → Prop
  | addI (x y : Int) : BinR .Add (.int x) (.int y) (.int (x + y))
  | subI (x y : Int) : BinR .Sub (.int x) (.int y) (.int (x - y))
  | mulI (x y : Int) : x.natAbs < 2 ^ 60 ∨ y.natAbs < 2 ^ 60 → BinR .Mult (.int x) (.int y) (.int (x * y))
  | divI (x y : Int) : 0 < y → y < 2 ^ 60 → BinR .FloorDiv (.int x) (.int y) (.int (x.fdiv y))
  | modI (x y : Int) : 0 < y → BinR .Mod (.int x) (.int y) (.int (x.fmod y))
  | powI (x y : Int) : 0 ≤ y → y ≤ 1000 → x.natAbs < 2 ^ 60 → BinR .Pow (.int x) (.int y) (.int (x ^ y.toNat))
  | shlI (x y : Int) : 0 ≤ y → y ≤ 1000 → x.natAbs < 2 ^ 60 → BinR .LShift (.int x) (.int y) (.int (x * 2 ^ y.toNat))
  | shrI (x y : Int) : 0 ≤ y → BinR .RShift (.int x) (.int y) (.int (x.fdiv (2 ^ y.toNat)))
  | orI (x y : Int) : BinR .BitOr (.int x) (.int y) (.int (Builtin.bitOr x y))
  | andI (x y : Int) : BinR .BitAnd (.int x) (.int y) (.int (Builtin.bitAnd x y))
  | addL (x y : List Dt) : x.length + y.length ≤ lim → BinR .Add (.lst x) (.lst y) (.lst (x ++ y))
  | addB (x y : List UInt8) : x.length + y.length ≤ lim → BinR .Add (.bytes x) (.bytes y) (.bytes (x ++ y))
theorem bits64 {x : Int} (hx : x.natAbs < 2 ^ 60) : Builtin.Int.intBits x ≤ 64 := by
  unfold Builtin.Int.intBits
  split
  · decide
  · rename_i h
    have h0 : x.natAbs ≠ 0 := by simpa using h
    have := (Nat.log2_lt h0).mpr hx
    omega
theorem mulOk {x y : Int} (hx : x.natAbs < 2 ^ 60 ∨ y.natAbs < 2 ^ 60) : IntMulOk x y :=
  hx.elim (fun h => IntMulOk.of_left (bits64 h)) fun h => IntMulOk.of_right (bits64 h)
theorem binop_sound {op : Operator} {a b d : Dt} (ho : BinR op a b d) {B : Heap} {mu : List Addr} {K₀ : Kn} {fa : Addr} {K : Kn} {s : Shared} {u v : Value} {Q E : Value → Shared → Prop}
    (S : St C B mu K₀ fa ρ fo K st s.heap) (ra : Rd C.hv K u a) (rb : Rd C.hv K v b)
    (h : ∀ v h' tk K', KLe K K' → St C B mu K₀ fa ρ fo K' st h' → Rd C.hv K' v d → Q v { s with heap := h', toks := tk }) : wpAny (model C.prog C.w) C.A (binaryOp op u v) Q E s := by
  cases ho with
  | addI x y => obtain ⟨t, rfl⟩ := ra.int_inv; obtain ⟨w, rfl⟩ := rb.int_inv; exact add_int (h _ s.heap _ K (.refl _) S (.int ..))
  | subI x y => obtain ⟨t, rfl⟩ := ra.int_inv; obtain ⟨w, rfl⟩ := rb.int_inv; exact sub_int (h _ s.heap _ K (.refl _) S (.int ..))
  | mulI x y hx => obtain ⟨t, rfl⟩ := ra.int_inv; obtain ⟨w, rfl⟩ := rb.int_inv; exact mul_int (h _ s.heap _ K (.refl _) S (.int ..)) (mulOk hx)
  | divI x y h0 h1 =>
    obtain ⟨t, rfl⟩ := ra.int_inv; obtain ⟨w, rfl⟩ := rb.int_inv
    refine floordiv_int (by omega) (h _ s.heap _ K (.refl _) S (.int ..)) (Or.inl (PyProof.noPylong_of_log2 ?_))
    by_cases hz : y.natAbs = 0
    · rw [hz]; decide
    · exact Nat.lt_of_lt_of_le ((Nat.log2_lt hz).mpr (show y.natAbs < 2 ^ 60 by omega)) (by decide)
  | modI x y h0 => obtain ⟨t, rfl⟩ := ra.int_inv; obtain ⟨w, rfl⟩ := rb.int_inv; exact mod_int' (by omega) (h _ s.heap _ K (.refl _) S (.int ..))
  | powI x y h0 h1 h2 => obtain ⟨t, rfl⟩ := ra.int_inv; obtain ⟨w, rfl⟩ := rb.int_inv; exact pow_int_small h0 (by omega) (Nat.lt_trans h2 (by decide)) (h _ s.heap _ K (.refl _) S (.int ..))
  | shlI x y h0 h1 h2 => obtain ⟨t, rfl⟩ := ra.int_inv; obtain ⟨w, rfl⟩ := rb.int_inv; exact lshift_int_small h0 (by omega) (Nat.lt_trans h2 (by decide)) (h _ s.heap _ K (.refl _) S (.int ..))
  | shrI x y h0 => obtain ⟨t, rfl⟩ := ra.int_inv; obtain ⟨w, rfl⟩ := rb.int_inv; exact rshift_int h0 (h _ s.heap _ K (.refl _) S (.int ..))
  | orI x y => obtain ⟨t, rfl⟩ := ra.int_inv; obtain ⟨w, rfl⟩ := rb.int_inv; exact or_int (h _ s.heap _ K (.refl _) S (.int ..))
  | andI x y => obtain ⟨t, rfl⟩ := ra.int_inv; obtain ⟨w, rfl⟩ := rb.int_inv; exact and_int (h _ s.heap _ K (.refl _) S (.int ..))
  | addL x y hl =>
    obtain ⟨a, o, vs, n, rfl, e1, e2, e3, e4, e5⟩ := ra.lst_inv
    obtain ⟨b, o', ws, n', rfl, f1, f2, f3, f4, f5⟩ := rb.lst_inv
    obtain ⟨m, hm, _⟩ := S.fr
    have l1 := e5.length
    have l2 := f5.length
    refine W.kmk_add_lit (fr_e0 hm) (news_e0 _ _) ⟨o, S.kn _ _ e1, e2, n, e3⟩ ⟨o', S.kn _ _ f1, f2, n', f3⟩ (zs := vs ++ ws) (by simp) (fun D h' F' N' hlt => ?_) (lim_line (by simp; omega))
    have hD := N' (D, _) List.mem_cons_self
    obtain ⟨k, S'⟩ := S.add (S.none_of_gt (o := o) hm hD.2.1 hlt) (S.lib hm F' N' fun p hp => List.mem_cons_of_mem _ hp) hD.1
    exact h _ h' _ _ k S' (.lst (kadd_self ..) rfl rfl (by simpa using hl) ((e5.append f5).mono k))
  | addB x y hl =>
    obtain ⟨t, rfl, _⟩ := ra.bytes_inv
    obtain ⟨w, rfl, _⟩ := rb.bytes_inv
    refine W.KBy.add_bytes (by have := lim_line hl; rw [sizeLine_eq] at this; simpa using this) fun t' k => h _ s.heap _ K (.refl _) S (.bytes _ (by simp) (by simpa using hl))
theorem Ev.bin {l r : Expr} {op : Operator} {pos : Pos} {a b d : Dt} (hl : Ev C ρ fo st l a st1) (hr : Ev C ρ fo st1 r b st2) (ho : BinR op a b d) : Ev C ρ fo st (.BinOp l op r pos) d st2 :=
  fun B mu K₀ fa K s Q E S h => wpAny_BinOp (hl B mu K₀ fa K s _ E S fun u h1 tk1 K1 k1 S1 r1 => hr B mu K₀ fa K1 _ _ E S1 fun v h2 tk2 K2 k2 S2 r2 =>
    binop_sound ho S2 (r1.mono k2) r2 fun w h3 tk3 K3 k3 S3 r3 => h w h3 tk3 K3 ((k1.trans k2).trans k3) S3 r3)
theorem Ev.neg {x : Expr} {pos : Pos} {i : Int} (hx : Ev C ρ fo st x (.int i) st1) : Ev C ρ fo st (.UnaryOp .USub x pos) (.int (-i)) st1 :=
  fun B mu K₀ fa K s Q E S h => UnaryOp_ (hx B mu K₀ fa K s _ E S fun u h1 tk1 K1 k1 S1 r1 => by
    obtain ⟨t, rfl⟩ := r1.int_inv
    exact neg_int (h _ h1 _ K1 k1 S1 (.int ..)))
end
end Mine
end
section
open PySem PyProof.Rows
set_option linter.unusedVariables false
set_option linter.unusedSimpArgs false
namespace Mine
mutual
noncomputable def toDat : Dt → W.Dat
  | .none => .none
  | .bool b => .bool b
  | .int i => .int i
  | .bytes l => .bytes l.toArray
  | .tup ds => .tuple (toDats ds)
  | .lst ds => .list (toDats ds)
  | .hd _ => .bytes #[]
noncomputable def toDats : List Dt → List W.Dat
  | [] => []
  | d :: ds => toDat d :: toDats ds
end
theorem toDats_eq (ds : List Dt) : toDats ds = ds.map toDat := by
  induction ds with
  | nil => rfl
  | cons d r ih => rw [toDats, ih]; rfl
noncomputable abbrev okD (d : Dt) : Prop := W.kqdOk 8 (toDat d) = true
section
variable {hv : Nat → Value} {K : Kn} {h : Heap}
mutual
theorem rd_reads (hk : ∀ a o, K a = some o → h.get? a = some o) : ∀ {v : Value} {d : Dt} (n : Nat), Rd hv K v d → W.kqdOk n (toDat d) = true → ∃ as, Reads h v (W.kqdP (toDat d)) as
  | _, _, _, .none, _ => ⟨_, Reads.none⟩
  | _, _, _, .bool b, _ => ⟨_, Reads.bool b⟩
  | _, _, _, .int i t, _ => ⟨_, Reads.int i t⟩
  | _, _, n, .bytes _ _ _, hk => by cases n <;> simp [toDat, W.kqdOk] at hk
  | _, _, n, .hd _ _, hk => by cases n <;> simp [toDat, W.kqdOk] at hk
  | _, _, 0, .tup _ _ _ _ _, hk => by simp [toDat, W.kqdOk] at hk
  | _, _, 0, .lst _ _ _ _ _, hk => by simp [toDat, W.kqdOk] at hk
  | _, _, n + 1, .tup e c dd _ r, q => by
    obtain ⟨as, z⟩ := rds_reads hk n r (by simpa [toDat, W.kqdOk] using q)
    rw [toDat, W.kqdP]
    exact ⟨as, reads_tuple_at (hk _ _ e) c dd (by simpa using z)⟩
  | _, _, n + 1, .lst e c dd _ r, q => by
    obtain ⟨as, z⟩ := rds_reads hk n r (by simpa [toDat, W.kqdOk] using q)
    rw [toDat, W.kqdP]
    exact ⟨_, reads_list_at (hk _ _ e) c dd (by simpa using z)⟩
theorem rds_reads (hk : ∀ a o, K a = some o → h.get? a = some o) : ∀ {vs : List Value} {ds : List Dt} (n : Nat), Rds hv K vs ds → (∀ d ∈ toDats ds, W.kqdOk n d = true) → ∃ as, ReadsAll h vs (W.kqdPs (toDats ds)) as
  | _, _, _, .nil, _ => ⟨_, ReadsAll.nil⟩
  | _, _, n, .cons hd r, q => by
    obtain ⟨as, x⟩ := rd_reads hk n hd (q _ (by rw [toDats]; exact .head _))
    obtain ⟨bs, y⟩ := rds_reads hk n r fun d hm => q d (by rw [toDats]; exact .tail _ hm)
    rw [toDats, W.kqdPs]
    exact ⟨_, ReadsAll.cons x y⟩
end
end
theorem okD_shaped {d : Dt} (h : okD d) : SeqAt.shaped (W.kqdP (toDat d)) = true := by
  have := W.kqd_lay 8 (toDat d) h
  unfold SeqAt.shaped
  rw [this.1, Bool.true_and]; exact decide_eq_true (Nat.le_trans this.2 (by decide))
theorem okD_nil : okD (.lst []) := by decide
theorem eqv_refl {d : Dt} (h : okD d) : PyData.eqv (W.kqdP (toDat d)) (W.kqdP (toDat d)) = true := (W.kqd_eqv 8 _ _ 8 h h).mpr rfl
theorem eqv_nil {ds : List Dt} (h : okD (.lst ds)) : PyData.eqv (W.kqdP (toDat (.lst ds))) (W.kqdP (toDat (.lst []))) = ds.isEmpty := by
  have q := W.kqd_eqv 8 (toDat (.lst ds)) (toDat (.lst [])) 8 h okD_nil
  cases ds with
  | nil => exact eqv_refl okD_nil
  | cons d r =>
    show _ = false
    rw [Bool.eq_false_iff]
    intro z
    have := q.mp z
    simp [toDat, toDats] at this
noncomputable def unints : List Dt → Option (List Int)
  | [] => some []
  | .int i :: r => (unints r).map (i :: ·)
  | _ :: _ => none
theorem unints_dints (ns : List Int) : unints (dints ns) = some ns := by
  induction ns with
  | nil => rfl
  | cons n r ih => show (unints (dints r)).map (n :: ·) = _; rw [ih]; rfl
theorem unints_eq {ds : List Dt} {ns : List Int} (h : unints ds = some ns) : ds = dints ns := by
  induction ds generalizing ns with
  | nil => cases h; rfl
  | cons d r ih =>
    cases d with
    | int i =>
      obtain ⟨ms, h1, rfl⟩ := Option.map_eq_some_iff.mp h
      rw [ih h1]; rfl
    | _ => cases h
inductive CmpR : CmpOp → Dt → Dt → Bool → Prop
  | eqI (x y : Int) : CmpR .Eq (.int x) (.int y) (x == y)
  | neI (x y : Int) : CmpR .NotEq (.int x) (.int y) (x != y)
  | ltI (x y : Int) : CmpR .Lt (.int x) (.int y) (decide (x < y))
  | leI (x y : Int) : CmpR .LtE (.int x) (.int y) (decide (x ≤ y))
  | gtI (x y : Int) : CmpR .Gt (.int x) (.int y) (decide (y < x))
  | geI (x y : Int) : CmpR .GtE (.int x) (.int y) (decide (y ≤ x))
  | eqB (x y : Bool) : CmpR .Eq (.bool x) (.bool y) (x == y)
  | neB (x y : Bool) : CmpR .NotEq (.bool x) (.bool y) (x != y)
  | neN : CmpR .NotEq .none .none false
  | isN : CmpR .Is .none .none true
  | eqD (d : Dt) : okD d → CmpR .Eq d d true
  | neD (d : Dt) : okD d → CmpR .NotEq d d false
  | eqL (ds : List Dt) : okD (.lst ds) → CmpR .Eq (.lst ds) (.lst []) ds.isEmpty
  | neL (ds : List Dt) : okD (.lst ds) → CmpR .NotEq (.lst ds) (.lst []) (!ds.isEmpty)
  | inL (x : Int) (ds : List Dt) (ns : List Int) : unints ds = some ns → CmpR .In (.int x) (.lst ds) (ns.any (· == x))
  | niL (x : Int) (ds : List Dt) (ns : List Int) : unints ds = some ns → CmpR .NotIn (.int x) (.lst ds) (!ns.any (· == x))
  | inT (x : Int) (ds : List Dt) (ns : List Int) : unints ds = some ns → CmpR .In (.int x) (.tup ds) (ns.any (· == x))
  | niT (x : Int) (ds : List Dt) (ns : List Int) : unints ds = some ns → CmpR .NotIn (.int x) (.tup ds) (!ns.any (· == x))
section
variable {σ : Type} {C : Cx σ} {ρ : Ro} {fo : Option (List Dt)} {st st1 st2 st3 : σ}
theorem cmp_sound {op : CmpOp} {a b : Dt} {r : Bool} (ho : CmpR op a b r) {B : Heap} {mu : List Addr} {K₀ : Kn} {fa : Addr} {K : Kn} {s : Shared} {u v : Value} {Q E : Value → Shared → Prop}
    (S : St C B mu K₀ fa ρ fo K st s.heap) (ra : Rd C.hv K u a) (rb : Rd C.hv K v b)
    (h : Q (.bool r) s) : wpAny (model C.prog C.w) C.A (compareOp op u v) Q E s := by
  have hu : C.A.units + 64 < cLine := by have := S.ok.un; omega
  cases ho with
  | eqI x y => obtain ⟨t, rfl⟩ := ra.int_inv; obtain ⟨w, rfl⟩ := rb.int_inv; exact eq_int h
  | neI x y => obtain ⟨t, rfl⟩ := ra.int_inv; obtain ⟨w, rfl⟩ := rb.int_inv; exact ne_int h
  | ltI x y => obtain ⟨t, rfl⟩ := ra.int_inv; obtain ⟨w, rfl⟩ := rb.int_inv; exact lt_int h
  | leI x y => obtain ⟨t, rfl⟩ := ra.int_inv; obtain ⟨w, rfl⟩ := rb.int_inv; exact le_int h
  | gtI x y => obtain ⟨t, rfl⟩ := ra.int_inv; obtain ⟨w, rfl⟩ := rb.int_inv; exact gt_int h
  | geI x y => obtain ⟨t, rfl⟩ := ra.int_inv; obtain ⟨w, rfl⟩ := rb.int_inv; exact ge_int h
  | eqB x y => rw [ra.bool_inv, rb.bool_inv]; exact eq_bool h
  | neB x y => rw [ra.bool_inv, rb.bool_inv]; exact ne_bool h
  | neN => rw [ra.none_inv, rb.none_inv]; exact EqNone.ne_none_none h
  | isN => rw [ra.none_inv, rb.none_inv]; exact wpAny_is_self rfl h
  | eqD _ hd =>
    obtain ⟨as, q⟩ := rd_reads S.kn 8 ra hd
    obtain ⟨bs, p⟩ := rd_reads S.kn 8 rb hd
    exact eq_dataH q p (okD_shaped hd) (okD_shaped hd) hu (by rw [eqv_refl hd]; exact h)
  | neD _ hd =>
    obtain ⟨as, q⟩ := rd_reads S.kn 8 ra hd
    obtain ⟨bs, p⟩ := rd_reads S.kn 8 rb hd
    exact ne_dataH q p (okD_shaped hd) (okD_shaped hd) hu (by rw [eqv_refl hd]; exact h)
  | eqL ds hd =>
    obtain ⟨as, q⟩ := rd_reads S.kn 8 ra hd
    obtain ⟨bs, p⟩ := rd_reads S.kn 8 rb okD_nil
    exact eq_dataH q p (okD_shaped hd) (okD_shaped okD_nil) hu (by rw [eqv_nil hd]; exact h)
  | neL ds hd =>
    obtain ⟨as, q⟩ := rd_reads S.kn 8 ra hd
    obtain ⟨bs, p⟩ := rd_reads S.kn 8 rb okD_nil
    exact ne_dataH q p (okD_shaped hd) (okD_shaped okD_nil) hu (by rw [eqv_nil hd]; exact h)
  | inL x ds ns hn =>
    obtain ⟨t, rfl⟩ := ra.int_inv
    obtain ⟨b, o, vs, n, rfl, f1, f2, f3, f4, f5⟩ := rb.lst_inv
    rw [unints_eq hn] at f5
    exact in_list_ints ⟨o, S.kn _ _ f1, f2, n, f3⟩ f5.ints_inv h
  | niL x ds ns hn =>
    obtain ⟨t, rfl⟩ := ra.int_inv
    obtain ⟨b, o, vs, n, rfl, f1, f2, f3, f4, f5⟩ := rb.lst_inv
    rw [unints_eq hn] at f5
    exact notin_list_ints ⟨o, S.kn _ _ f1, f2, n, f3⟩ f5.ints_inv h
  | inT x ds ns hn =>
    obtain ⟨t, rfl⟩ := ra.int_inv
    obtain ⟨b, o, vs, n, rfl, f1, f2, f3, f4, f5⟩ := rb.tup_inv
    rw [unints_eq hn] at f5
    exact in_tuple_ints (items := vs.toArray) ⟨o, S.kn _ _ f1, f2, n, f3⟩ (by simpa using f5.ints_inv) h
  | niT x ds ns hn =>
    obtain ⟨t, rfl⟩ := ra.int_inv
    obtain ⟨b, o, vs, n, rfl, f1, f2, f3, f4, f5⟩ := rb.tup_inv
    rw [unints_eq hn] at f5
    exact notin_tuple_ints (items := vs.toArray) ⟨o, S.kn _ _ f1, f2, n, f3⟩ (by simpa using f5.ints_inv) h
theorem Ev.cmp {l r : Expr} {op : CmpOp} {pos : Pos} {a b : Dt} {c : Bool} (hl : Ev C ρ fo st l a st1) (hr : Ev C ρ fo st1 r b st2) (ho : CmpR op a b c) (hm : behindInMarks op r = false := by rfl) :
    Ev C ρ fo st (.Compare l [op] [r] pos) (.bool c) st2 :=
  fun B mu K₀ fa K s Q E S h => wpAny_Compare1 (hl B mu K₀ fa K s _ E S fun u h1 tk1 K1 k1 S1 r1 => hr B mu K₀ fa K1 _ _ E S1 fun v h2 tk2 K2 k2 S2 r2 =>
    cmp_sound ho S2 (r1.mono k2) r2 (h _ h2 _ K2 (k1.trans k2) S2 (.bool _))) hm
theorem Tst.cmp {l r : Expr} {op : CmpOp} {pos : Pos} {a b : Dt} {c : Bool} (hl : Ev C ρ fo st l a st1) (hr : Ev C ρ fo st1 r b st2) (ho : CmpR op a b c) (hm : behindInMarks op r = false := by rfl) :
    Tst C ρ fo st (.Compare l [op] [r] pos) c st2 :=
  fun B mu K₀ fa K s Q E S h => wpAny_isTrue_Compare1 (hl B mu K₀ fa K s _ E S fun u h1 tk1 K1 k1 S1 r1 => hr B mu K₀ fa K1 _ _ E S1 fun v h2 tk2 K2 k2 S2 r2 =>
    cmp_sound ho S2 (r1.mono k2) r2 (wpAny_truthy_bool (h h2 _ K2 (k1.trans k2) S2))) hm
theorem Ev.cmp2t {l r r' : Expr} {op op' : CmpOp} {pos : Pos} {a b b' : Dt} {c : Bool} (hl : Ev C ρ fo st l a st1) (hr : Ev C ρ fo st1 r b st2) (ho : CmpR op a b true)
    (hr' : Ev C ρ fo st2 r' b' st3) (ho' : CmpR op' b b' c) (hm : lastMarks [op, op'] [r, r'] = false := by rfl) :
    Ev C ρ fo st (.Compare l [op, op'] [r, r'] pos) (.bool c) st3 :=
  fun B mu K₀ fa K s Q E S h => Compare_chain (hl B mu K₀ fa K s _ E S fun u h1 tk1 K1 k1 S1 r1 => chain_link (hr B mu K₀ fa K1 _ _ E S1 fun v h2 tk2 K2 k2 S2 r2 =>
    cmp_sound ho S2 (r1.mono k2) r2 (wpAny_truthy_bool (by
      rw [if_pos rfl]
      exact chain_last (hr' B mu K₀ fa K2 _ _ E S2 fun w h3 tk3 K3 k3 S3 r3 => cmp_sound ho' S3 (r2.mono k3) r3 (h _ h3 _ K3 ((k1.trans k2).trans k3) S3 (.bool _))))))) hm
theorem Ev.cmp2f {l r r' : Expr} {op op' : CmpOp} {pos : Pos} {a b : Dt} (hl : Ev C ρ fo st l a st1) (hr : Ev C ρ fo st1 r b st2) (ho : CmpR op a b false)
    (hm : lastMarks [op, op'] [r, r'] = false := by rfl) :
    Ev C ρ fo st (.Compare l [op, op'] [r, r'] pos) (.bool false) st2 :=
  fun B mu K₀ fa K s Q E S h => Compare_chain (hl B mu K₀ fa K s _ E S fun u h1 tk1 K1 k1 S1 r1 => chain_link (hr B mu K₀ fa K1 _ _ E S1 fun v h2 tk2 K2 k2 S2 r2 =>
    cmp_sound ho S2 (r1.mono k2) r2 (wpAny_truthy_bool (by
      rw [if_neg (by simp)]
      exact h _ h2 _ K2 (k1.trans k2) S2 (.bool _))))) hm
theorem Tst.cmp2t {l r r' : Expr} {op op' : CmpOp} {pos : Pos} {a b b' : Dt} {c : Bool} (hl : Ev C ρ fo st l a st1) (hr : Ev C ρ fo st1 r b st2) (ho : CmpR op a b true)
    (hr' : Ev C ρ fo st2 r' b' st3) (ho' : CmpR op' b b' c) (hm : lastMarks [op, op'] [r, r'] = false := by rfl) :
    Tst C ρ fo st (.Compare l [op, op'] [r, r'] pos) c st3 :=
  fun B mu K₀ fa K s Q E S h => isTrue_chain (hl B mu K₀ fa K s _ E S fun u h1 tk1 K1 k1 S1 r1 => test_link (hr B mu K₀ fa K1 _ _ E S1 fun v h2 tk2 K2 k2 S2 r2 =>
    cmp_sound ho S2 (r1.mono k2) r2 (wpAny_truthy_bool (by
      rw [if_pos rfl]
      exact test_last (hr' B mu K₀ fa K2 _ _ E S2 fun w h3 tk3 K3 k3 S3 r3 => cmp_sound ho' S3 (r2.mono k3) r3 (wpAny_truthy_bool (h h3 _ K3 ((k1.trans k2).trans k3) S3))))))) hm
theorem Tst.cmp2f {l r r' : Expr} {op op' : CmpOp} {pos : Pos} {a b : Dt} (hl : Ev C ρ fo st l a st1) (hr : Ev C ρ fo st1 r b st2) (ho : CmpR op a b false)
    (hm : lastMarks [op, op'] [r, r'] = false := by rfl) :
    Tst C ρ fo st (.Compare l [op, op'] [r, r'] pos) false st2 :=
  fun B mu K₀ fa K s Q E S h => isTrue_chain (hl B mu K₀ fa K s _ E S fun u h1 tk1 K1 k1 S1 r1 => test_link (hr B mu K₀ fa K1 _ _ E S1 fun v h2 tk2 K2 k2 S2 r2 =>
    cmp_sound ho S2 (r1.mono k2) r2 (wpAny_truthy_bool (by
      rw [if_neg (by simp)]
      exact h h2 _ K2 (k1.trans k2) S2)))) hm
theorem Tst.plain {e : Expr} {b : Bool} (he : Ev C ρ fo st e (.bool b) st1) (hp : isTrue e C.env (eval e C.env) = (do let v ← eval e C.env; standAt e.pos; holding [v] (truthy v)) := by rfl) : Tst C ρ fo st e b st1 :=
  fun B mu K₀ fa K s Q E S h => isTrue_plain (he B mu K₀ fa K s _ E S fun u h1 tk1 K1 k1 S1 r1 => by rw [r1.bool_inv]; exact wpAny_truthy_bool (h h1 tk1 K1 k1 S1)) hp
theorem Tst.not {x : Expr} {pos : Pos} {b : Bool} (he : Tst C ρ fo st x b st1) : Tst C ρ fo st (.UnaryOp .Not x pos) (!b) st1 :=
  fun B mu K₀ fa K s Q E S h => isTrue_not (he B mu K₀ fa K s _ E S fun h1 tk1 K1 k1 S1 => h h1 tk1 K1 k1 S1)
end
end Mine
end
section
open PySem PyProof.Rows
set_option linter.unusedVariables false
set_option linter.unusedSimpArgs false
namespace Mine
section
variable {σ : Type} {C : Cx σ} {ρ : Ro} {fo : Option (List Dt)} {st st1 st2 st3 : σ}
theorem Tst.and_t {x : Expr} {rest : List Expr} {pos : Pos} {b : Bool} (hx : Tst C ρ fo st x true st1) (hr : Tst C ρ fo st1 (.BoolOp .And rest pos) b st2) : Tst C ρ fo st (.BoolOp .And (x :: rest) pos) b st2 :=
  fun B mu K₀ fa K s Q E S h => isTrue_and (hx B mu K₀ fa K s _ E S fun h1 tk1 K1 k1 S1 => by
    rw [if_pos rfl]
    exact hr B mu K₀ fa K1 _ _ E S1 fun h2 tk2 K2 k2 S2 => h h2 tk2 K2 (k1.trans k2) S2)
theorem Tst.and_f {x : Expr} {rest : List Expr} {pos : Pos} (hx : Tst C ρ fo st x false st1) : Tst C ρ fo st (.BoolOp .And (x :: rest) pos) false st1 :=
  fun B mu K₀ fa K s Q E S h => isTrue_and (hx B mu K₀ fa K s _ E S fun h1 tk1 K1 k1 S1 => by
    rw [if_neg (by simp)]
    exact h h1 tk1 K1 k1 S1)
theorem Tst.and_0 {pos : Pos} : Tst C ρ fo st (.BoolOp .And [] pos) true st := fun B mu K₀ fa K s Q E S h => isTrue_and_nil (h s.heap s.toks K (.refl _) S)
theorem Tst.or_f {x : Expr} {rest : List Expr} {pos : Pos} {b : Bool} (hx : Tst C ρ fo st x false st1) (hr : Tst C ρ fo st1 (.BoolOp .Or rest pos) b st2) : Tst C ρ fo st (.BoolOp .Or (x :: rest) pos) b st2 :=
  fun B mu K₀ fa K s Q E S h => isTrue_or (hx B mu K₀ fa K s _ E S fun h1 tk1 K1 k1 S1 => by
    rw [if_neg (by simp)]
    exact hr B mu K₀ fa K1 _ _ E S1 fun h2 tk2 K2 k2 S2 => h h2 tk2 K2 (k1.trans k2) S2)
theorem Tst.or_t {x : Expr} {rest : List Expr} {pos : Pos} (hx : Tst C ρ fo st x true st1) : Tst C ρ fo st (.BoolOp .Or (x :: rest) pos) true st1 :=
  fun B mu K₀ fa K s Q E S h => isTrue_or (hx B mu K₀ fa K s _ E S fun h1 tk1 K1 k1 S1 => by
    rw [if_pos rfl]
    exact h h1 tk1 K1 k1 S1)
theorem Tst.or_0 {pos : Pos} : Tst C ρ fo st (.BoolOp .Or [] pos) false st := fun B mu K₀ fa K s Q E S h => isTrue_or_nil (h s.heap s.toks K (.refl _) S)
theorem Ev.bool1 {op : BoolOp} {e : Expr} {pos : Pos} {d : Dt} (he : Ev C ρ fo st e d st1) : Ev C ρ fo st (.BoolOp op [e] pos) d st1 :=
  fun B mu K₀ fa K s Q E S h => BoolOp_one (he B mu K₀ fa K s Q E S h)
theorem Ev.and_t {e₁ e₂ : Expr} {rest : List Expr} {pos : Pos} {d : Dt} (hx : Ev C ρ fo st e₁ (.bool true) st1) (hr : Ev C ρ fo st1 (.BoolOp .And (e₂ :: rest) pos) d st2) : Ev C ρ fo st (.BoolOp .And (e₁ :: e₂ :: rest) pos) d st2 :=
  fun B mu K₀ fa K s Q E S h => BoolOp_and (hx B mu K₀ fa K s _ E S fun u h1 tk1 K1 k1 S1 r1 => by
    rw [r1.bool_inv]
    refine wpAny_truthy_bool ?_
    rw [if_pos rfl]
    exact hr B mu K₀ fa K1 _ _ E S1 fun v h2 tk2 K2 k2 S2 r2 => h v h2 tk2 K2 (k1.trans k2) S2 r2)
theorem Ev.ite_t {t b o : Expr} {pos : Pos} {d : Dt} (ht : Tst C ρ fo st t true st1) (hb : Ev C ρ fo st1 b d st2) : Ev C ρ fo st (.IfExp t b o pos) d st2 :=
  fun B mu K₀ fa K s Q E S h => IfExp_ (ht B mu K₀ fa K s _ E S fun h1 tk1 K1 k1 S1 => by
    rw [if_pos rfl]
    exact hb B mu K₀ fa K1 _ _ E S1 fun v h2 tk2 K2 k2 S2 r2 => h v h2 tk2 K2 (k1.trans k2) S2 r2)
theorem Ev.ite_f {t b o : Expr} {pos : Pos} {d : Dt} (ht : Tst C ρ fo st t false st1) (hb : Ev C ρ fo st1 o d st2) : Ev C ρ fo st (.IfExp t b o pos) d st2 :=
  fun B mu K₀ fa K s Q E S h => IfExp_ (ht B mu K₀ fa K s _ E S fun h1 tk1 K1 k1 S1 => by
    rw [if_neg (by simp)]
    exact hb B mu K₀ fa K1 _ _ E S1 fun v h2 tk2 K2 k2 S2 r2 => h v h2 tk2 K2 (k1.trans k2) S2 r2)
noncomputable def noStar : Expr → Bool
  | .Starred .. => false
  | _ => true
theorem starEach_cons {e : Expr} {rest : List Expr} {env : Env} (h : noStar e = true) : starEach (e :: rest) env = (false, eval e env) :: starEach rest env := by
  cases e <;> first | rfl | cases h
noncomputable def noStars (es : List Expr) : Bool := es.all noStar
theorem any_star {es : List Expr} {env : Env} {pos : Pos} (h : noStars es = true) : (backTo pos (starEach es env)).any (·.1) = false := by
  induction es with
  | nil => rfl
  | cons e r ih =>
    unfold noStars at h
    rw [List.all_cons, Bool.and_eq_true] at h
    rw [starEach_cons h.1]
    show (false || (backTo pos (starEach r env)).any (·.1)) = false
    rw [ih h.2]; rfl
noncomputable abbrev Es (C : Cx σ) (ρ : Ro) (fo : Option (List Dt)) (st : σ) (es : List Expr) (ds : List Dt) (st' : σ) : Prop := ∀ pos, Tl C ρ fo st (spliced (backTo pos (starEach es C.env))) ds st'
theorem Es.nil : Es C ρ fo st [] [] st := fun pos B mu K₀ fa K s Q E S h => Calls.spliced_nil (h [] s.heap s.toks K (.refl _) S .nil)
theorem Es.cons {e : Expr} {rest : List Expr} {d : Dt} {ds : List Dt} (he : Ev C ρ fo st e d st1) (hr : Es C ρ fo st1 rest ds st2) (hs : noStar e = true := by rfl) : Es C ρ fo st (e :: rest) (d :: ds) st2 := by
  intro pos B mu K₀ fa K s Q E S h
  rw [starEach_cons hs]
  exact Calls.spliced_cons (he B mu K₀ fa K s _ E S fun v h1 tk1 K1 k1 S1 r1 => hr pos B mu K₀ fa K1 _ _ E S1 fun vs h2 tk2 K2 k2 S2 r2 =>
    h (v :: vs) h2 tk2 K2 (k1.trans k2) S2 (.cons (r1.mono k2) r2))
theorem Ev.tuple {es : List Expr} {k : Nat} {pos : Pos} {ds : List Dt} (he : Es C ρ fo st es ds st1) (hl : ds.length ≤ lim := by exact Nat.le_of_ble_eq_true rfl) : Ev C ρ fo st (.Tuple es k pos) (.tup ds) st1 :=
  fun B mu K₀ fa K s Q E S h => Tuple_ (he pos B mu K₀ fa K s _ E S fun vs h1 tk1 K1 k1 S1 r1 => by
    have S2 := S1.push { cls := .type "tuple", data := .seq vs.toArray }
    refine wpAny_newObj_type (h _ _ _ _ (k1.trans S2.1) S2.2 (.tup (kadd_self ..) rfl rfl hl (r1.mono S2.1))) ?_
    show vs.toArray.size ≤ sizeLine
    rw [List.size_toArray, r1.length]; exact lim_line hl)
theorem Ev.list {es : List Expr} {pos : Pos} {ds : List Dt} (he : Es C ρ fo st es ds st1) (hl : ds.length ≤ lim := by exact Nat.le_of_ble_eq_true rfl) : Ev C ρ fo st (.List es pos) (.lst ds) st1 :=
  fun B mu K₀ fa K s Q E S h => List_ (he pos B mu K₀ fa K s _ E S fun vs h1 tk1 K1 k1 S1 r1 => by
    have S2 := S1.push { cls := .type "list", data := .seq vs.toArray }
    refine wpAny_newObj_type (h _ _ _ _ (k1.trans S2.1) S2.2 (.lst (kadd_self ..) rfl rfl hl (r1.mono S2.1))) ?_
    show vs.toArray.size ≤ sizeLine
    rw [List.size_toArray, r1.length]; exact lim_line hl)
noncomputable def noSlice : Expr → Bool
  | .Slice .. => false
  | _ => true
theorem subs_plain {slice : Expr} {o i : Value} (h : noSlice slice = true) : subscripted slice false o i = operate [o, i] (getItem o i) := by
  cases slice <;> first | rfl | cases h
inductive ItemR : Dt → Dt → Dt → Prop
  | lst (ds : List Dt) (k : Int) (j : Nat) (d : Dt) : -(2 ^ 63) ≤ k → k < 2 ^ 63 → seqIndex? k ds.length = some j → ds[j]? = some d → ItemR (.lst ds) (.int k) d
  | tup (ds : List Dt) (k : Int) (j : Nat) (d : Dt) : -(2 ^ 63) ≤ k → k < 2 ^ 63 → seqIndex? k ds.length = some j → ds[j]? = some d → ItemR (.tup ds) (.int k) d
  | byt (l : List UInt8) (k : Int) : 0 ≤ k → k < (l.length : Int) → ItemR (.bytes l) (.int k) (.int ((l.getD k.toNat 0).toNat : Int))
theorem getItem_listR {s : Shared} {prog : Program} {w : World} {A : Around} {E : Value → Shared → Prop} {value slice : Expr} {l : Addr} {vs : List Value} {k : Int} {t : Tok} {j : Nat} {x : Value} {Q : Value → Shared → Prop} (hl : s.heap.IsList l vs.toArray) (hlo : -(2 ^ 63) ≤ k) (hhi : k < 2 ^ 63)
    (hj : seqIndex? k vs.length = some j) (hx : vs[j]? = some x) (hs : noSlice slice = true) (h : Q x s) : wpAny (model prog w) A (subscriptTail value slice (.ref l) (.int k t)) Q E s := by
  by_cases h0 : 0 ≤ k
  · have hkn : k < vs.length := by
      apply Int.lt_of_not_ge
      intro q
      rw [PySem.MeetsSeq.seqIndex_none_hi q] at hj; cases hj
    rw [seqIndex_of h0 hkn] at hj
    cases hj
    exact tail_any hl.typeIs slot_list_getitem.lookup (wpAny_getItem_list hl h0 hhi (by simpa using hx) h) (subs_plain hs)
  · exact W.kde_neg hl (by omega) hlo hj hx h (subs_plain hs)
theorem item_sound {a i d : Dt} (ho : ItemR a i d) {value slice : Expr} (hs : noSlice slice = true) {B : Heap} {mu : List Addr} {K₀ : Kn} {fa : Addr} {K : Kn} {s : Shared} {u v : Value} {Q E : Value → Shared → Prop}
    (S : St C B mu K₀ fa ρ fo K st s.heap) (ra : Rd C.hv K u a) (rb : Rd C.hv K v i)
    (h : ∀ v h' tk K', KLe K K' → St C B mu K₀ fa ρ fo K' st h' → Rd C.hv K' v d → Q v { s with heap := h', toks := tk }) : wpAny (model C.prog C.w) C.A (subscriptTail value slice u v) Q E s := by
  cases ho with
  | lst ds k j _ h1 h2 h3 h4 =>
    obtain ⟨t, rfl⟩ := rb.int_inv
    obtain ⟨b, o, vs, n, rfl, f1, f2, f3, f4, f5⟩ := ra.lst_inv
    obtain ⟨x, hx, rx⟩ := f5.get h4
    exact getItem_listR ⟨o, S.kn _ _ f1, f2, n, f3⟩ h1 h2 (by rw [f5.length]; exact h3) hx hs (h x s.heap s.toks K (.refl _) S rx)
  | tup ds k j _ h1 h2 h3 h4 =>
    obtain ⟨t, rfl⟩ := rb.int_inv
    obtain ⟨b, o, vs, n, rfl, f1, f2, f3, f4, f5⟩ := ra.tup_inv
    obtain ⟨x, hx, rx⟩ := f5.get h4
    exact item_tupleT (l := vs) ⟨o, S.kn _ _ f1, f2, n, f3⟩ h1 h2 (by rw [f5.length]; exact h3) hx (h x s.heap s.toks K (.refl _) S rx) (subs_plain hs)
  | byt l k h0 h1 =>
    obtain ⟨t, rfl⟩ := rb.int_inv
    obtain ⟨t', rfl, hl⟩ := ra.bytes_inv
    exact W.KBy.item_N (by unfold lim at hl; omega) h0 h1 (h _ s.heap _ K (.refl _) S (.int ..)) (subs_plain hs) (fun r => by cases value <;> rfl)
theorem Ev.item {value slice : Expr} {pos : Pos} {a i d : Dt} (hv : Ev C ρ fo st value a st1) (hi : Ev C ρ fo st1 slice i st2) (ho : ItemR a i d) (hs : noSlice slice = true := by rfl) : Ev C ρ fo st (.Subscript value slice pos) d st2 :=
  fun B mu K₀ fa K s Q E S h => Subscript_ (hv B mu K₀ fa K s _ E S fun u h1 tk1 K1 k1 S1 r1 => hi B mu K₀ fa K1 _ _ E S1 fun v h2 tk2 K2 k2 S2 r2 =>
    item_sound ho hs S2 (r1.mono k2) r2 fun w h3 tk3 K3 k3 S3 r3 => h w h3 tk3 K3 ((k1.trans k2).trans k3) S3 r3)
end
end Mine
end
section
open PySem PyProof.Rows
set_option linter.unusedVariables false
set_option linter.unusedSimpArgs false
namespace Mine
noncomputable def cut {α : Type} (l : List α) (lo hi : Option Int) : List α := (l.drop (lo.elim 0 (clipAt l.length))).take (hi.elim l.length (clipAt l.length) - lo.elim 0 (clipAt l.length))
theorem Rds.cut {hv : Nat → Value} {K : Kn} {vs : List Value} {ds : List Dt} (h : Rds hv K vs ds) (lo hi : Option Int) : Rds hv K (cut vs lo hi) (cut ds lo hi) := by
  unfold Mine.cut
  rw [h.length]
  exact (h.drop _).take _
theorem cut_len {α : Type} (l : List α) (lo hi : Option Int) : (cut l lo hi).length ≤ l.length := by
  unfold Mine.cut
  rw [List.length_take, List.length_drop]; omega
section
variable {σ : Type} {C : Cx σ} {ρ : Ro} {fo : Option (List Dt)} {st st1 st2 st3 : σ}
/-- an end of a slice -/
noncomputable def Eo (C : Cx σ) (ρ : Ro) (fo : Option (List Dt)) (st : σ) (oe : Option Expr) (oi : Option Int) (st' : σ) : Prop := match oe, oi with
  | none, none => st' = st
  | some e, some i => Ev C ρ fo st e (.int i) st'
  | _, _ => False
theorem Eo.none : Eo C ρ fo st none none st := rfl
theorem Eo.some {e : Expr} {i : Int} (h : Ev C ρ fo st e (.int i) st1) : Eo C ρ fo st (some e) (some i) st1 := h
theorem Eo.use {oe : Option Expr} {oi : Option Int} (he : Eo C ρ fo st oe oi st1) {B : Heap} {mu : List Addr} {K₀ : Kn} {fa : Addr} {K : Kn} {s : Shared} {Q E : Value → Shared → Prop} (S : St C B mu K₀ fa ρ fo K st s.heap)
    (h : ∀ v h' tk K', KLe K K' → St C B mu K₀ fa ρ fo K' st1 h' → IsPart v oi → Q v { s with heap := h', toks := tk }) : wpAny (model C.prog C.w) C.A (evalPart oe C.env) Q E s := by
  cases oe with
  | none =>
    cases oi with
    | none => cases he; exact evalPart_none_step (h _ s.heap s.toks K (.refl _) S .none)
    | some i => cases he
  | some e =>
    cases oi with
    | none => cases he
    | some i => exact evalPart_some_step (he B mu K₀ fa K s _ E S fun v h1 tk1 K1 k1 S1 r1 => by
        obtain ⟨t, rfl⟩ := r1.int_inv
        exact h _ h1 tk1 K1 k1 S1 (.int ..))
theorem Ev.sliceL {value : Expr} {lo up : Option Expr} {p pos : Pos} {ds : List Dt} {ol oh : Option Int} (hv : Ev C ρ fo st value (.lst ds) st1) (hl : Eo C ρ fo st1 lo ol st2) (hu : Eo C ρ fo st2 up oh st3) :
    Ev C ρ fo st (.Subscript value (.Slice lo up none p) pos) (.lst (cut ds ol oh)) st3 :=
  fun B mu K₀ fa K s Q E S h => Subscript_ (hv B mu K₀ fa K s _ E S fun u h1 tk1 K1 k1 S1 r1 => wpAny_Slice (hl.use (s := { s with heap := h1, toks := tk1 }) S1 fun vl h2 tk2 K2 k2 S2 p2 =>
    hu.use (s := { s with heap := h2, toks := tk2 }) S2 fun vu h3 tk3 K3 k3 S3 p3 => evalPart_none_step (by
      obtain ⟨b, o, vs, n, rfl, f1, f2, f3, f4, f5⟩ := (r1.mono (k2.trans k3)).lst_inv
      have hl : h3.IsList b vs.toArray := ⟨o, S3.kn _ _ f1, f2, n, f3⟩
      have hz : vs.toArray.size ≤ sizeLine := by rw [List.size_toArray, f5.length]; exact lim_line f4
      refine tail_any (s := ⟨h3.push _, _, _, _, _⟩) (Heap.IsList.typeIs (s := ⟨h3.push _, _, _, _, _⟩) (hl.push _)) list_getitem_lookup (wpAny_getItem_list_slice (s := ⟨h3.push _, _, _, _, _⟩) (hl.push _) (Heap.IsSliceOf.new ..) p2 p3 .none (by simp) ?_ hz) rfl
      have S4 := S3.pushed { cls := .type "slice", data := .fields #[vl, vu, .none] }
      have e : slicePick vs.toArray ol oh none = (cut vs ol oh).toArray := by rw [slicePick_plain]; simp [Mine.cut]
      rw [e]
      have S5 := S4.push (lobj (cut vs ol oh) 0)
      exact h _ _ _ _ (((k1.trans k2).trans k3).trans S5.1) S5.2 (.lst (kadd_self ..) rfl rfl (Nat.le_trans (cut_len ..) f4) ((f5.cut ol oh).mono S5.1)))))
theorem Ev.rev {value ke : Expr} {p pos : Pos} {ds : List Dt} (hv : Ev C ρ fo st value (.lst ds) st1) (hk : Ev C ρ fo st1 ke (.int (-1)) st2) :
    Ev C ρ fo st (.Subscript value (.Slice none none (some ke) p) pos) (.lst ds.reverse) st2 :=
  fun B mu K₀ fa K s Q E S h => Subscript_ (hv B mu K₀ fa K s _ E S fun u h1 tk1 K1 k1 S1 r1 => wpAny_Slice (evalPart_none_step (evalPart_none_step (evalPart_some_step
    (hk B mu K₀ fa K1 { s with heap := h1, toks := tk1 } _ E S1 fun vk h3 tk3 K3 k3 S3 r3 => by
      obtain ⟨t, rfl⟩ := r3.int_inv
      obtain ⟨b, o, vs, n, rfl, f1, f2, f3, f4, f5⟩ := (r1.mono k3).lst_inv
      have hl : h3.IsList b vs.toArray := ⟨o, S3.kn _ _ f1, f2, n, f3⟩
      have hz : vs.toArray.size ≤ sizeLine := by rw [List.size_toArray, f5.length]; exact lim_line f4
      refine tail_any (s := ⟨h3.push _, _, _, _, _⟩) (ops := [.ref b, .ref h3.objs.size]) (Heap.IsList.typeIs (s := ⟨h3.push _, _, _, _, _⟩) (hl.push _)) list_getitem_lookup (wpAny_getItem_list_slice (s := ⟨h3.push _, _, _, _, _⟩) (hl.push _) (Heap.IsSliceOf.new ..) .none .none (.int ..) (by decide) ?_ hz) rfl
      have S4 := S3.pushed { cls := .type "slice", data := .fields #[.none, .none, .int (-1) t] }
      have e : slicePick vs.toArray none none (some (-1)) = vs.reverse.toArray := by rw [W.krv_pick]
      rw [e]
      have S5 := S4.push (lobj vs.reverse 0)
      exact h _ _ _ _ ((k1.trans k3).trans S5.1) S5.2 (.lst (kadd_self ..) rfl rfl (by simpa using f4) (f5.reverse.mono S5.1)))))))
theorem Ev.sliceB {value : Expr} {lo up : Option Expr} {p pos : Pos} {l : List UInt8} {ol oh : Option Int} (hv : Ev C ρ fo st value (.bytes l) st1) (hl : Eo C ρ fo st1 lo ol st2) (hu : Eo C ρ fo st2 up oh st3) :
    Ev C ρ fo st (.Subscript value (.Slice lo up none p) pos) (.bytes (cut l ol oh)) st3 :=
  fun B mu K₀ fa K s Q E S h => Subscript_ (hv B mu K₀ fa K s _ E S fun u h1 tk1 K1 k1 S1 r1 => wpAny_Slice (hl.use (s := { s with heap := h1, toks := tk1 }) S1 fun vl h2 tk2 K2 k2 S2 p2 =>
    hu.use (s := { s with heap := h2, toks := tk2 }) S2 fun vu h3 tk3 K3 k3 S3 p3 => evalPart_none_step (by
      obtain ⟨t, rfl, hl⟩ := r1.bytes_inv
      obtain ⟨m, hm, _⟩ := S3.fr
      have hz : (W.KBw.bInts l.toArray).length ≤ 16777216 := by
        have := lim_line hl
        rw [sizeLine_eq] at this
        simpa [W.KBw.bInts] using this
      refine W.KBc.slice_K (s := ⟨h3, _, _, _, _⟩) (fr_e0 hm) (news_e0 _ _) rfl p2 p3 hz (fun h' t' k F' N' _ => ?_) rfl (fun r => by cases value <;> rfl)
      have e : W.KBy.picked l.toArray ol oh = (cut l ol oh).toArray := by rw [W.KBc.picked_eq]; simp [Mine.cut]
      rw [e]
      exact h _ _ _ _ ((k1.trans k2).trans k3) (S3.lib hm F' N' fun p hp => hp) (.bytes _ rfl (Nat.le_trans (cut_len ..) hl)))))
noncomputable def unbools : List Dt → Option (List Bool)
  | [] => some []
  | .bool i :: r => (unbools r).map (i :: ·)
  | _ :: _ => none
theorem unbools_are {hv : Nat → Value} {K : Kn} {ds : List Dt} {bs : List Bool} {vs : List Value} (h : unbools ds = some bs) (r : Rds hv K vs ds) : LSm.BoolsAre vs bs := by
  induction ds generalizing bs vs with
  | nil => cases h; cases r; exact .nil
  | cons d r' ih =>
    cases d with
    | bool i =>
      obtain ⟨ms, h1, rfl⟩ := Option.map_eq_some_iff.mp h
      cases r with
      | cons a b => rw [a.bool_inv]; exact .cons _ (ih h1 b)
    | _ => cases h
inductive CallR : Value → List Dt → Dt → Prop
  | lenL (ds : List Dt) : CallR (.builtin "len") [.lst ds] (.int (ds.length : Int))
  | lenT (ds : List Dt) : CallR (.builtin "len") [.tup ds] (.int (ds.length : Int))
  | lenB (l : List UInt8) : CallR (.builtin "len") [.bytes l] (.int (l.length : Int))
  | max2 (a b : Int) : CallR (.builtin "max") [.int a, .int b] (.int (if b > a then b else a))
  | min2 (a b : Int) : CallR (.builtin "min") [.int a, .int b] (.int (if b < a then b else a))
  | maxL (ds : List Dt) (ns : List Int) (M : Int) : unints ds = some ns → M ∈ ns → (∀ a ∈ ns, a ≤ M) → CallR (.builtin "max") [.lst ds] (.int M)
  | sumL (ds : List Dt) (ns : List Int) : unints ds = some ns → CallR (.builtin "sum") [.lst ds] (.int ns.sum)
  | anyL (ds : List Dt) (bs : List Bool) : unbools ds = some bs → CallR (.builtin "any") [.lst ds] (.bool (bs.any id))
  | sortL (ds : List Dt) (ns ms : List Int) : unints ds = some ns → ns.length < 64 → ms.Perm ns → ms.Pairwise (· ≤ ·) → CallR (.builtin "sorted") [.lst ds] (.lst (dints ms))
  | listL (ds : List Dt) : CallR (.type "list") [.lst ds] (.lst ds)
theorem intsAre_rds {hv : Nat → Value} {K : Kn} {vs : List Value} {ns : List Int} (h : IntsAre vs ns) : Rds hv K vs (dints ns) := by
  induction h with
  | nil => exact .nil
  | cons n t _ ih => exact .cons (.int ..) ih
theorem Rds.one' {hv : Nat → Value} {K : Kn} {vs : List Value} {d : Dt} (r : Rds hv K vs [d]) : ∃ v, Rd hv K v d ∧ vs = [v] := by
  cases r with | cons a b => cases b; exact ⟨_, a, rfl⟩
theorem Rds.two {hv : Nat → Value} {K : Kn} {vs : List Value} {d e : Dt} (r : Rds hv K vs [d, e]) : ∃ v, Rd hv K v d ∧ ∃ u, Rd hv K u e ∧ vs = [v, u] := by
  cases r with | cons a b => cases b with | cons b c => cases c; exact ⟨_, a, _, b, rfl⟩
theorem sorted_eq {xs ys : List Int} (hp : xs.Perm ys) (hx : xs.Pairwise (· ≤ ·)) (hy : ys.Pairwise (· ≤ ·)) : xs = ys :=
  List.Perm.eq_of_pairwise (fun a b _ _ h1 h2 => Int.le_antisymm h1 h2) hx hy hp
theorem call_sound {f : Value} {ds : List Dt} {d : Dt} (ho : CallR f ds d) {B : Heap} {mu : List Addr} {K₀ : Kn} {fa : Addr} {K : Kn} {s : Shared} {vs : List Value} {Q E : Value → Shared → Prop}
    (S : St C B mu K₀ fa ρ fo K st s.heap) (ra : Rds C.hv K vs ds)
    (h : ∀ v h' tk K', KLe K K' → St C B mu K₀ fa ρ fo K' st h' → Rd C.hv K' v d → Q v { s with heap := h', toks := tk }) : wpAny (model C.prog C.w) C.A (call f vs) Q E s := by
  cases ho with
  | lenL ds =>
    obtain ⟨v1, r1, rfl⟩ := ra.one'
    obtain ⟨b, o, vs, n, rfl, f1, f2, f3, f4, f5⟩ := r1.lst_inv
    exact len_list (items := vs.toArray) ⟨o, S.kn _ _ f1, f2, n, f3⟩ (by rw [List.size_toArray, f5.length]; unfold lim at f4; omega) (by
      rw [List.size_toArray, f5.length]; exact h _ s.heap _ K (.refl _) S (.int ..))
  | lenT ds =>
    obtain ⟨v1, r1, rfl⟩ := ra.one'
    obtain ⟨b, o, vs, n, rfl, f1, f2, f3, f4, f5⟩ := r1.tup_inv
    exact len_tuple (items := vs.toArray) ⟨o, S.kn _ _ f1, f2, n, f3⟩ (by rw [List.size_toArray, f5.length]; unfold lim at f4; omega) (by
      rw [List.size_toArray, f5.length]; exact h _ s.heap _ K (.refl _) S (.int ..))
  | lenB l =>
    obtain ⟨v1, r1, rfl⟩ := ra.one'
    obtain ⟨t, rfl, hl⟩ := r1.bytes_inv
    exact W.KBw.len_K (ks := W.KBw.bInts l.toArray) rfl (by unfold lim at hl; simp [W.KBw.bInts]; omega) (by
      have e : (W.KBw.bInts l.toArray).length = l.length := by simp [W.KBw.bInts]
      rw [e]; exact h _ s.heap _ K (.refl _) S (.int ..))
  | max2 a b =>
    obtain ⟨v1, r1, v2, r2, rfl⟩ := ra.two
    obtain ⟨t, rfl⟩ := r1.int_inv
    obtain ⟨u, rfl⟩ := r2.int_inv
    obtain ⟨m, hm, _⟩ := S.fr
    exact max_two_N S.ok.hh (fr_e0 hm) (news_e0 _ _) fun h' tk F' N' => h _ h' tk K (.refl _) (S.lib hm F' N' fun p hp => hp) (.int ..)
  | min2 a b =>
    obtain ⟨v1, r1, v2, r2, rfl⟩ := ra.two
    obtain ⟨t, rfl⟩ := r1.int_inv
    obtain ⟨u, rfl⟩ := r2.int_inv
    obtain ⟨m, hm, _⟩ := S.fr
    exact min_two_N S.ok.hh (fr_e0 hm) (news_e0 _ _) fun h' tk F' N' => h _ h' tk K (.refl _) (S.lib hm F' N' fun p hp => hp) (.int ..)
  | maxL ds ns M hu h1 h2 =>
    obtain ⟨v1, r1, rfl⟩ := ra.one'
    obtain ⟨b, o, vs, n, rfl, f1, f2, f3, f4, f5⟩ := r1.lst_inv
    rw [unints_eq hu] at f5
    obtain ⟨m, hm, _⟩ := S.fr
    exact W.kso_max (fr_e0 hm) (news_e0 _ _) ⟨o, S.kn _ _ f1, f2, n, f3⟩ f5.ints_inv (List.length_pos_of_mem h1) S.ok.hh fun h' M' t tk F' N' m1 m2 => by
      have e : M' = M := Int.le_antisymm (h2 _ m1) (m2 _ h1)
      subst e
      exact h _ h' tk K (.refl _) (S.lib hm F' N' fun p hp => hp) (.int ..)
  | sumL ds ns hu =>
    obtain ⟨v1, r1, rfl⟩ := ra.one'
    obtain ⟨b, o, vs, n, rfl, f1, f2, f3, f4, f5⟩ := r1.lst_inv
    rw [unints_eq hu] at f5
    obtain ⟨m, hm, _⟩ := S.fr
    exact W.sumK S.ok.hh (fr_e0 hm) (news_e0 _ _) ⟨o, S.kn _ _ f1, f2, n, f3⟩ f5.ints_inv fun h' tk t' F' N' => h _ h' tk K (.refl _) (S.lib hm F' N' fun p hp => hp) (.int ..)
  | anyL ds bs hu =>
    obtain ⟨v1, r1, rfl⟩ := ra.one'
    obtain ⟨b, o, vs, n, rfl, f1, f2, f3, f4, f5⟩ := r1.lst_inv
    obtain ⟨m, hm, _⟩ := S.fr
    exact LSm.any_bools (fr_e0 hm) (news_e0 _ _) S.ok.hh ⟨o, S.kn _ _ f1, f2, n, f3⟩ (unbools_are hu f5) fun h' tk F' N' => h _ h' tk K (.refl _) (S.lib hm F' N' fun p hp => hp) (.bool _)
  | sortL ds ns ms hu h64 hp hs =>
    obtain ⟨v1, r1, rfl⟩ := ra.one'
    obtain ⟨b, o, vs, n, rfl, f1, f2, f3, f4, f5⟩ := r1.lst_inv
    rw [unints_eq hu] at f5
    obtain ⟨m, hm, _⟩ := S.fr
    exact W.kso_sorted (fr_e0 hm) (news_e0 _ _) ⟨o, S.kn _ _ f1, f2, n, f3⟩ f5.ints_inv h64 fun D vs' ns' c h' F' N' hlt hi hl hp' hs' _ => by
      have e : ns' = ms := sorted_eq (hp'.trans hp.symm) hs' hs
      subst e
      have hD := N' (D, _) List.mem_cons_self
      obtain ⟨k, S'⟩ := S.add (S.none_of_gt (o := o) hm hD.2.1 hlt) (S.lib hm F' N' fun p hp => List.mem_cons_of_mem _ hp) hD.1
      exact h _ h' _ _ k S' (.lst (kadd_self ..) rfl rfl (by simp [dints]; unfold lim; omega) (intsAre_rds hi))
  | listL ds =>
    obtain ⟨v1, r1, rfl⟩ := ra.one'
    obtain ⟨b, o, vs, n, rfl, f1, f2, f3, f4, f5⟩ := r1.lst_inv
    obtain ⟨m, hm, _⟩ := S.fr
    exact W.list_copyK (fr_e0 hm) (news_e0 _ _) ⟨o, S.kn _ _ f1, f2, n, f3⟩ (fun D c h' F' N' hlt => by
      have hD := N' (D, _) List.mem_cons_self
      obtain ⟨k, S'⟩ := S.add (S.none_of_gt (o := o) hm hD.2.1 hlt) (S.lib hm F' N' fun p hp => List.mem_cons_of_mem _ hp) hD.1
      exact h _ h' _ _ k S' (.lst (kadd_self ..) rfl rfl f4 (f5.mono k))) (by rw [List.size_toArray, f5.length]; exact lim_line f4)
end
end Mine
end
section
open PySem PyProof.Rows
set_option linter.unusedVariables false
set_option linter.unusedSimpArgs false
namespace Mine
inductive Fl where
  | next
  | brk
  | ret (d : Dt)
noncomputable def FlR (hv : Nat → Value) (K : Kn) : Flow → Fl → Prop
  | .next, .next => True
  | .brk, .brk => True
  | .ret v, .ret d => Rd hv K v d
  | _, _ => False
noncomputable abbrev Post (σ : Type) := Fl → Ro → Option (List Dt) → σ → Prop
section
variable {σ : Type}
noncomputable def Ts (C : Cx σ) (ρ : Ro) (fo : Option (List Dt)) (st : σ) (t : Sem Flow) (P : Post σ) : Prop :=
  ∀ (B : Heap) (mu : List Addr) (K₀ : Kn) (fa : Addr) (K : Kn) (s : Shared) (Q : Flow → Shared → Prop) (E : Value → Shared → Prop), St C B mu K₀ fa ρ fo K st s.heap →
    (∀ f h' tk K' fa' fl ρ' fo' st', P fl ρ' fo' st' → KLe K K' → St C B mu K₀ fa' ρ' fo' K' st' h' → FlR C.hv K' f fl → Q f { s with heap := h', toks := tk }) → wpAny (model C.prog C.w) C.A t Q E s
noncomputable abbrev Ex (C : Cx σ) (ρ : Ro) (fo : Option (List Dt)) (st : σ) (s : Stmt) (P : Post σ) : Prop := Ts C ρ fo st (exec s C.env) P
noncomputable abbrev Exs (C : Cx σ) (ρ : Ro) (fo : Option (List Dt)) (st : σ) (ss : List Stmt) (P : Post σ) : Prop := Ts C ρ fo st (execs ss C.env) P
theorem Ts.mono {C : Cx σ} {ρ : Ro} {fo : Option (List Dt)} {st : σ} {t : Sem Flow} {P P' : Post σ} (h : Ts C ρ fo st t P) (hp : ∀ fl ρ' fo' st', P fl ρ' fo' st' → P' fl ρ' fo' st') : Ts C ρ fo st t P' :=
  fun B mu K₀ fa K s Q E S q => h B mu K₀ fa K s Q E S fun f h' tk K' fa' fl ρ' fo' st' p => q f h' tk K' fa' fl ρ' fo' st' (hp _ _ _ _ p)
end
noncomputable def stor {σ : Type} (C : Cx σ) (x : Str) : Prop := C.env.kindOf x = some .local ∨ (C.env.kindOf x = some .cell ∧ ∃ c, (x, c) ∈ C.stc)
section
variable {σ : Type} {C : Cx σ} {ρ ρ' ρ₁ ρ₂ : Ro} {fo : Option (List Dt)} {st st1 st2 st3 : σ} {B : Heap} {mu : List Addr} {K₀ : Kn} {fa : Addr} {K : Kn} {h h' : Heap}
/-- a name stored: all but one object stay -/
theorem St.storeAny {s : Shared} {x : Str} {v : Value} {Q : Unit → Shared → Prop} {E : Value → Shared → Prop} (S : St C B mu K₀ fa ρ fo K st s.heap) (hx : stor C x)
    (q : ∀ h' tk, (∀ b o, s.heap.get? b = some o → b ∉ ownL C fa fo → h'.get? b = some o) → (∀ m', h'.Ns C.env.locals m' → Look C m' h' x v) →
      (∀ ρ' : Ro, (∀ y d, ρ'.get y = some d → if y = x then Rd C.hv K v d else ρ.get y = some d) → (x ≠ fnd ∨ fo = none) → St C B mu K₀ fa ρ' fo K st h') → Q () { s with heap := h', toks := tk }) :
    wpAny (model C.prog C.w) C.A (storeName C.env x v) Q E s := by
  obtain ⟨m, hm, hr, hf⟩ := id S.fr
  rcases hx with hl | ⟨hc, c, hmem⟩
  · refine wpAny_storeName_local hl hm (fun h' hn hs => q h' _ (fun b o e hb => hs.extBut b o (fun z => hb (z ▸ St.L_mem)) e) (fun m' hm' => ?_) fun ρ' hρ hne => ?_) (by rw [S.ok.kind]; rfl)
    · rw [← ns_uniq hn hm']
      exact Or.inl ⟨hl, by show (if x = x then _ else _) = _; rw [if_pos rfl]⟩
    · refine S.change (fun b o e hb => hs.extBut b o hb e) hn fun m₁ hm₁ lk => ?_
      have e := ns_uniq hm hm₁
      subst e
      have lk' : ∀ y u, y ≠ x → Look C m s.heap y u → Look C (fun z => if z = x then some v else m z) h' y u := fun y u hyx l => lk y u l fun hk => by
        rw [if_neg hyx]
        rcases l with ⟨_, q⟩ | ⟨q | ⟨q, _⟩, _⟩
        · exact q
        · rw [hk] at q; cases q
        · rw [hk] at q; cases q
      refine ⟨fun y d e => ?_, fun ds e => lk' _ _ (fun z => ?_) (hf ds e)⟩
      · have z := hρ y d e
        by_cases hyx : y = x
        · rw [if_pos hyx] at z
          exact ⟨v, Or.inl ⟨by rw [hyx]; exact hl, by show (if y = x then _ else _) = _; rw [if_pos hyx]⟩, z⟩
        · rw [if_neg hyx] at z
          obtain ⟨u, l, r⟩ := hr y d z
          exact ⟨u, lk' y u hyx l, r⟩
      · rcases hne with w | w
        · exact w z.symm
        · rw [w] at e; cases e
  · have hcl := S.ok.cl _ hmem
    obtain ⟨v₀, hv₀⟩ := S.ce _ hmem
    have cown : c ∈ ownL C fa fo := List.mem_cons_of_mem _ (List.mem_append.mpr (.inl (List.mem_map.mpr ⟨_, hmem, rfl⟩)))
    have cK := (S.mt c (List.mem_append.mpr (.inl cown))).1
    have nd := S.nd
    have cL : c ≠ C.env.locals := cell_ne hm hv₀
    have cfp : c ∉ C.fp := fun hm' => by
      rw [List.nodup_append] at nd
      exact nd.2.2 _ cown _ hm' rfl
    refine wpAny_storeName_cell S.ok.kind hc hcl hv₀ fun h' hc' hs => ?_
    have keep : ∀ b o, b ≠ c → s.heap.get? b = some o → h'.get? b = some o := fun b o hb e => hs.extBut b o hb e
    have ks : ∀ b, (s.heap.get? b).isSome = true → (h'.get? b).isSome = true := fun b hb => by
      by_cases e : b = c
      · subst e; obtain ⟨o, ho, _⟩ := hc'; rw [ho]; rfl
      · obtain ⟨o, ho⟩ := Option.isSome_iff_exists.mp hb
        rw [keep b o e ho]; rfl
    refine q h' s.toks (fun b o e hb => keep b o (fun z => hb (z ▸ cown)) e) (fun m' _ => Or.inr ⟨Or.inl hc, c, hcl, hc'⟩) fun ρ' hρ hne => ?_
    have lk : ∀ y u, y ≠ x → Look C m s.heap y u → Look C m h' y u := fun y u hyx l => l.imp id fun ⟨a, c', b, i⟩ => ⟨a, c', b, by
      refine i.sameBut hs fun z => hyx ?_
      subst z
      exact S.ok.ci _ hmem y b⟩
    exact {
      ok := S.ok
      base := fun b o e hb hf' => keep b o (fun z => by
        rcases S.ow c cown with w | w
        · exact hb (z ▸ w)
        · rw [z, w] at e; cases e) (S.base b o e hb hf')
      ex := fun b hb => ks b (S.ex b hb)
      kx := S.kx
      kn := fun a o e => keep a o (fun z => by rw [z, cK] at e; cases e) (S.kn a o e)
      top := S.top
      mt := fun a ha => ⟨(S.mt a ha).1, ks a (S.mt a ha).2⟩
      ow := S.ow
      nd := S.nd
      fr := ⟨m, hm.sameBut hs (Ne.symm cL), fun y d e => by
          have z := hρ y d e
          by_cases hyx : y = x
          · rw [if_pos hyx] at z
            exact ⟨v, Or.inr ⟨Or.inl (by rw [hyx]; exact hc), c, by rw [hyx]; exact hcl, hc'⟩, z⟩
          · rw [if_neg hyx] at z
            obtain ⟨u, l, r⟩ := hr y d z
            exact ⟨u, lk y u hyx l, r⟩,
        fun ds e => lk _ _ (fun z => by
          rcases hne with w | w
          · exact w z.symm
          · rw [w] at e; cases e) (hf ds e)⟩
      fl := fun ds e => let ⟨vs, n, g, r⟩ := S.fl ds e; ⟨vs, n, keep fa _ (fun z => by
        obtain ⟨o, ho, hd⟩ := hv₀
        rw [z] at g
        rw [show s.heap.get? c = some o from ho] at g
        cases g; cases hd) g, r⟩
      ce := fun p hp => by
        by_cases z : p.2 = c
        · exact ⟨_, by rw [z]; exact hc'⟩
        · obtain ⟨u, i⟩ := S.ce p hp
          exact ⟨u, i.sameBut hs z⟩
      sg := S.ok.sgk st _ _ (fun a ha o e => keep a o (fun z => cfp (z ▸ ha)) e) S.sg }
theorem St.store {s : Shared} {x : Str} {v : Value} {d : Dt} {Q : Unit → Shared → Prop} {E : Value → Shared → Prop} (S : St C B mu K₀ fa ρ fo K st s.heap) (hx : stor C x) (r : Rd C.hv K v d) (hs : Ro.set ρ x d = some ρ')
    (hne : x ≠ fnd ∨ fo = none) (q : ∀ h' tk, St C B mu K₀ fa ρ' fo K st h' → Q () { s with heap := h', toks := tk }) : wpAny (model C.prog C.w) C.A (storeName C.env x v) Q E s :=
  S.storeAny hx fun h' tk _ _ g => q h' tk (g ρ' (fun y e he => by
    rw [Ro.get_set hs] at he
    by_cases hy : y = x
    · rw [if_pos hy] at he ⊢; cases he; exact r
    · rw [if_neg hy] at he ⊢; exact he) hne)
inductive Binds (C : Cx σ) (fo : Option (List Dt)) : List Expr → List Dt → Ro → Ro → Prop
  | nil {ρ : Ro} : Binds C fo [] [] ρ ρ
  | cons {x : Str} {p : Pos} {es : List Expr} {d : Dt} {ds : List Dt} {ρ ρ₁ ρ' : Ro} : stor C x → (x ≠ fnd ∨ fo = none) → Ro.set ρ x d = some ρ₁ → Binds C fo es ds ρ₁ ρ' → Binds C fo (.Name x p :: es) (d :: ds) ρ ρ'
inductive Bind (C : Cx σ) (fo : Option (List Dt)) : Expr → Dt → Ro → Ro → Prop
  | name {x : Str} {p : Pos} {d : Dt} {ρ ρ' : Ro} : stor C x → (x ≠ fnd ∨ fo = none) → Ro.set ρ x d = some ρ' → Bind C fo (.Name x p) d ρ ρ'
  | tup {es : List Expr} {k : Nat} {p : Pos} {ds : List Dt} {ρ ρ' : Ro} : Binds C fo es ds ρ ρ' → Bind C fo (.Tuple es k p) (.tup ds) ρ ρ'
theorem Binds.shape {es : List Expr} {ds : List Dt} (b : Binds C fo es ds ρ ρ') : (assignEach es C.env).length = ds.length ∧ (assignEach es C.env).findIdx? (·.1) = none := by
  induction b with
  | nil => exact ⟨rfl, rfl⟩
  | cons _ _ _ _ ih => exact ⟨by show _ + 1 = _ + 1; rw [ih.1], by
      show List.findIdx? (·.1) ((false, _) :: assignEach _ C.env) = none
      rw [List.findIdx?_cons]; simp [ih.2]⟩
theorem Binds.go {es : List Expr} {ds : List Dt} (b : Binds C fo es ds ρ ρ') : ∀ {s : Shared} {vs : List Value} {Q : Unit → Shared → Prop} {E : Value → Shared → Prop} (S : St C B mu K₀ fa ρ fo K st s.heap) (r : Rds C.hv K vs ds)
    (q : ∀ h' tk, St C B mu K₀ fa ρ' fo K st h' → Q () { s with heap := h', toks := tk }), wpAny (model C.prog C.w) C.A (assignInOrder ((assignEach es C.env).map (·.2)) vs) Q E s := by
  induction b with
  | nil => intro s vs Q E S r q; cases r; exact wpAny_pure (q s.heap s.toks S)
  | cons hx hne hs _ ih =>
    intro s vs Q E S r q
    cases r with
    | cons r1 r2 =>
      exact wpAny_bind (wpAny_holding (wpAny_assign_Name (S.store hx r1 hs hne fun h1 tk1 S1 => ih (s := { s with heap := h1, toks := tk1 }) S1 r2 fun h2 tk2 S2 => q h2 tk2 S2)))
theorem Bind.go {t : Expr} {d : Dt} (b : Bind C fo t d ρ ρ') {s : Shared} {v : Value} {Q : Unit → Shared → Prop} {E : Value → Shared → Prop} (S : St C B mu K₀ fa ρ fo K st s.heap) (r : Rd C.hv K v d)
    (q : ∀ h' tk, St C B mu K₀ fa ρ' fo K st h' → Q () { s with heap := h', toks := tk }) : wpAny (model C.prog C.w) C.A (assign t C.env v) Q E s := by
  cases b with
  | name hx hne hs => exact wpAny_assign_Name (S.store hx r hs hne q)
  | tup b =>
    obtain ⟨a, o, vs, n, rfl, f1, f2, f3, f4, f5⟩ := r.tup_inv
    refine wpAny_assign_Tuple (items := vs.toArray) S.ok.hh ⟨o, S.kn _ _ f1, f2, n, f3⟩ (by rw [b.shape.1, List.size_toArray, f5.length]) b.shape.2 fun h' he => ?_
    have S1 : St C B mu K₀ fa ρ fo K st h' := S.keeps fun c o' e => he c o' (fun z => by rw [z, size_none] at e; cases e) e
    exact b.go (s := { s with heap := h' }) S1 (by simpa using f5) fun h2 tk2 S2 => q h2 tk2 S2
end
end Mine
end
section
open PySem PyProof.Rows
set_option linter.unusedVariables false
set_option linter.unusedSimpArgs false
namespace Mine
section
variable {σ : Type} {C : Cx σ} {ρ ρ' ρ₁ ρ₂ : Ro} {fo fo' : Option (List Dt)} {st st1 st2 st3 : σ} {P : Post σ}
theorem Exs.nil (h : P .next ρ fo st) : Exs C ρ fo st [] P := fun B mu K₀ fa K s Q E S q => wpAny_execs_nil (q .next s.heap s.toks K fa .next ρ fo st h (.refl _) S trivial)
theorem Exs.cons {s : Stmt} {rest : List Stmt} (h : Ex C ρ fo st s (fun fl ρ' fo' st' => match fl with | .next => Exs C ρ' fo' st' rest P | fl => P fl ρ' fo' st')) : Exs C ρ fo st (s :: rest) P :=
  fun B mu K₀ fa K s Q E S q => wpAny_execs_cons (h B mu K₀ fa K s _ E S fun f h' tk K' fa' fl ρ' fo' st' p k S' r => by
    cases f with
    | next =>
      cases fl with
      | next => exact p B mu K₀ fa' K' _ Q E S' fun f2 h2 tk2 K2 fa2 fl2 ρ2 fo2 st2 p2 k2 S2 r2 => q f2 h2 tk2 K2 fa2 fl2 ρ2 fo2 st2 p2 (k.trans k2) S2 r2
      | brk => cases r
      | ret d => cases r
    | brk =>
      cases fl with
      | next => cases r
      | brk => exact q _ h' tk K' fa' _ ρ' fo' st' p k S' r
      | ret d => cases r
    | cont => cases fl <;> cases r
    | ret v =>
      cases fl with
      | next => cases r
      | brk => cases r
      | ret d => exact q _ h' tk K' fa' _ ρ' fo' st' p k S' r)
theorem Ex.ite_t {t : Expr} {b o : List Stmt} {pos : Pos} (ht : Tst C ρ fo st t true st1) (hb : Exs C ρ fo st1 b P) : Ex C ρ fo st (.If t b o pos) P :=
  fun B mu K₀ fa K s Q E S q => wpAny_If (ht B mu K₀ fa K s _ E S fun h1 tk1 K1 k1 S1 => by
    rw [if_pos rfl]
    exact hb B mu K₀ fa K1 _ Q E S1 fun f2 h2 tk2 K2 fa2 fl2 ρ2 fo2 st2 p2 k2 S2 r2 => q f2 h2 tk2 K2 fa2 fl2 ρ2 fo2 st2 p2 (k1.trans k2) S2 r2)
theorem Ex.ite_f {t : Expr} {b o : List Stmt} {pos : Pos} (ht : Tst C ρ fo st t false st1) (hb : Exs C ρ fo st1 o P) : Ex C ρ fo st (.If t b o pos) P :=
  fun B mu K₀ fa K s Q E S q => wpAny_If (ht B mu K₀ fa K s _ E S fun h1 tk1 K1 k1 S1 => by
    rw [if_neg (by simp)]
    exact hb B mu K₀ fa K1 _ Q E S1 fun f2 h2 tk2 K2 fa2 fl2 ρ2 fo2 st2 p2 k2 S2 r2 => q f2 h2 tk2 K2 fa2 fl2 ρ2 fo2 st2 p2 (k1.trans k2) S2 r2)
theorem Ex.ret {e : Expr} {pos : Pos} {d : Dt} (he : Ev C ρ fo st e d st1) (h : P (.ret d) ρ fo st1) : Ex C ρ fo st (.Return (some e) pos) P :=
  fun B mu K₀ fa K s Q E S q => wpAny_Return_some (he B mu K₀ fa K s _ E S fun v h1 tk1 K1 k1 S1 r1 => q (.ret v) h1 tk1 K1 fa _ ρ fo st1 h k1 S1 r1)
theorem Ex.brk {pos : Pos} (h : P .brk ρ fo st) : Ex C ρ fo st (.Break pos) P :=
  fun B mu K₀ fa K s Q E S q => by
    show wpAny _ _ (do standAt pos; pure Flow.brk) Q E s
    exact wpAny_bind (wpAny_standAt (wpAny_pure (q .brk s.heap s.toks K fa .brk ρ fo st h (.refl _) S trivial)))
theorem Ex.assign {x : Str} {p pos : Pos} {value : Expr} {d : Dt} (hv : Ev C ρ fo st value d st1) (hx : stor C x) (hne : x ≠ fnd ∨ fo = none) (hs : Ro.set ρ x d = some ρ') (h : P .next ρ' fo st1)
    (hsw : swapsWith value (some (.Name x p)) pos.line C.env = pure false := by rfl) : Ex C ρ fo st (.Assign [.Name x p] value pos) P :=
  fun B mu K₀ fa K s Q E S q => wpAny_Assign_Name (hv B mu K₀ fa K s _ E S fun v h1 tk1 K1 k1 S1 r1 => S1.store (s := { s with heap := h1, toks := tk1 }) hx r1 hs hne fun h2 tk2 S2 => q .next h2 tk2 K1 fa .next ρ' fo st1 h k1 S2 trivial) hsw
theorem Ex.aug {x : Str} {p pos : Pos} {value : Expr} {a b : Int} (ha : ρ.get x = some (.int a)) (hv : Ev C ρ fo st value (.int b) st1) (hx : stor C x) (hne : x ≠ fnd ∨ fo = none) (hs : Ro.set ρ x (.int (a + b)) = some ρ') (h : P .next ρ' fo st1) :
    Ex C ρ fo st (.AugAssign (.Name x p) .Add value pos) P :=
  fun B mu K₀ fa K s Q E S q => by
    obtain ⟨m, hm, hr, _⟩ := S.fr
    obtain ⟨v, l, r⟩ := hr x _ ha
    obtain ⟨t, rfl⟩ := r.int_inv
    refine wpAny_AugAssign_Name (S.look hm l (hv B mu K₀ fa K s _ E S fun v h1 tk1 K1 k1 S1 r1 => ?_))
    obtain ⟨u, rfl⟩ := r1.int_inv
    exact PyProof.Rows.iadd_int (S1.store (s := { s with heap := h1, toks := tk1 + 1 }) hx (.int ..) hs hne fun h2 tk2 S2 => q .next h2 tk2 K1 fa .next ρ' fo st1 h k1 S2 trivial)
theorem Ex.assignT {elts : List Expr} {k : Nat} {tpos pos : Pos} {value : Expr} {ds : List Dt} (hv : Ev C ρ fo st value (.tup ds) st1) (hb : Binds C fo elts ds ρ ρ') (h : P .next ρ' fo st1)
    (hs : swapsWithSole [.Tuple elts k tpos] value pos.line C.env = pure false := by rfl) (hw : swappedStores [.Tuple elts k tpos] value C.env = pure none := by rfl) : Ex C ρ fo st (.Assign [.Tuple elts k tpos] value pos) P :=
  fun B mu K₀ fa K s Q E S q => Assign_Tuple (hv B mu K₀ fa K s _ E S fun v h1 tk1 K1 k1 S1 r1 => (Bind.tup hb).go (s := { s with heap := h1, toks := tk1 }) S1 r1 fun h2 tk2 S2 => q .next h2 tk2 K1 fa .next ρ' fo st1 h k1 S2 trivial) hs hw
/-- names, one after the other -/
inductive BindN (C : Cx σ) (fo : Option (List Dt)) : List Str → List Dt → Ro → Ro → Prop
  | nil {ρ : Ro} : BindN C fo [] [] ρ ρ
  | cons {x : Str} {xs : List Str} {d : Dt} {ds : List Dt} {ρ ρ₁ ρ' : Ro} : stor C x → (x ≠ fnd ∨ fo = none) → Ro.set ρ x d = some ρ₁ → BindN C fo xs ds ρ₁ ρ' → BindN C fo (x :: xs) (d :: ds) ρ ρ'
theorem BindN.go {xs : List Str} {ds : List Dt} (b : BindN C fo xs ds ρ ρ') {B : Heap} {mu : List Addr} {K₀ : Kn} {fa : Addr} {K : Kn} : ∀ {s : Shared} {vs : List Value} {Q : Unit → Shared → Prop} {E : Value → Shared → Prop} (S : St C B mu K₀ fa ρ fo K st s.heap) (r : Rds C.hv K vs ds)
    (q : ∀ h' tk, St C B mu K₀ fa ρ' fo K st h' → Q () { s with heap := h', toks := tk }), wpAny (model C.prog C.w) C.A (assignInOrder (xs.map fun n => bindName C.env n) vs) Q E s := by
  induction b with
  | nil => intro s vs Q E S r q; cases r; exact wpAny_pure (q s.heap s.toks S)
  | cons hx hne hs _ ih =>
    intro s vs Q E S r q
    cases r with
    | cons r1 r2 =>
      exact wpAny_bind (wpAny_holding (wpAny_bindName (S.store hx r1 hs hne fun h1 tk1 S1 => ih (s := { s with heap := h1, toks := tk1 }) S1 r2 fun h2 tk2 S2 => q h2 tk2 S2)))
theorem Ex.assignS {elts : List Expr} {k : Nat} {tpos pos : Pos} {value : Expr} {ds : List Dt} {names : List Str} (hv : Ev C ρ fo st value (.tup ds) st1) (hb : BindN C fo names.reverse ds.reverse ρ ρ') (h : P .next ρ' fo st1) (hl : names.length = ds.length := by rfl)
    (hs : swapsWithSole [.Tuple elts k tpos] value pos.line C.env = pure false := by rfl) (hw : swappedStores [.Tuple elts k tpos] value C.env = pure (some names) := by rfl) : Ex C ρ fo st (.Assign [.Tuple elts k tpos] value pos) P :=
  fun B mu K₀ fa K s Q E S q => Assign_Tuple_swapped (hv B mu K₀ fa K s _ E S fun v h1 tk1 K1 k1 S1 r1 => by
    obtain ⟨a, o, vs, n, rfl, f1, f2, f3, f4, f5⟩ := r1.tup_inv
    have e : names.length = vs.toArray.size := by rw [hl, List.size_toArray, f5.length]
    rw [e]
    refine unpackItems_tuple (s := { s with heap := h1, toks := tk1 }) S1.ok.hh ⟨o, S1.kn _ _ f1, f2, n, f3⟩ fun h' he => ?_
    have S2 : St C B mu K₀ fa ρ fo K1 st1 h' := S1.keeps fun c o' e => he c o' (fun z => by rw [z, size_none] at e; cases e) e
    exact hb.go (s := { s with heap := h', toks := tk1 }) S2 (by simpa using f5.reverse) fun h2 tk2 S3 => q .next h2 tk2 K1 fa .next ρ' fo st1 h k1 S3 trivial) hs hw
theorem St.storeOwn {B : Heap} {mu : List Addr} {K₀ : Kn} {fa a : Addr} {K : Kn} {s : Shared} {vs : List Value} {ds : List Dt} {n : Nat} {Q : Unit → Shared → Prop} {E : Value → Shared → Prop} (S : St C B mu K₀ fa ρ none K st s.heap) (hx : stor C fnd)
    (ha : s.heap.get? a = some (lobj vs n)) (hK : K a = none) (hB : B.get? a = none) (hn : a ∉ ownL C fa none ++ C.fp) (hl : ds.length ≤ lim) (r : Rds C.hv K vs ds) (hg : ρ.get fnd = none)
    (q : ∀ h' tk, St C B mu K₀ a ρ (some ds) K st h' → Q () { s with heap := h', toks := tk }) : wpAny (model C.prog C.w) C.A (storeName C.env fnd (.ref a)) Q E s := by
  refine S.storeAny hx fun h' tk keep look g => q h' tk ?_
  have S' := g ρ (fun y d e => by
    by_cases hy : y = fnd
    · rw [hy, hg] at e; cases e
    · rw [if_neg hy]; exact e) (Or.inr rfl)
  have hn1 : a ∉ ownL C fa none := fun z => hn (List.mem_append.mpr (.inl z))
  have hn2 : a ∉ C.fp := fun z => hn (List.mem_append.mpr (.inr z))
  have ha' := keep a _ ha hn1
  have e0 : ownL C fa none = C.env.locals :: C.stc.map (·.2) := by simp [ownL]
  have e1 : ownL C a (some ds) = (C.env.locals :: C.stc.map (·.2)) ++ [a] := by simp [ownL]
  obtain ⟨m, hm, hr, _⟩ := S'.fr
  exact {
    ok := S'.ok
    base := S'.base
    ex := S'.ex
    kx := S'.kx
    kn := S'.kn
    top := S'.top
    mt := fun b hb => by
      rw [e1] at hb
      rcases List.mem_append.mp hb with hb | hb
      · rcases List.mem_append.mp hb with hb | hb
        · exact S'.mt b (List.mem_append.mpr (.inl (by rw [e0]; exact hb)))
        · rw [List.mem_singleton.mp hb]; exact ⟨hK, by rw [ha']; rfl⟩
      · exact S'.mt b (List.mem_append.mpr (.inr hb))
    ow := fun b hb => by
      rw [e1] at hb
      rcases List.mem_append.mp hb with hb | hb
      · exact S'.ow b (by rw [e0]; exact hb)
      · rw [List.mem_singleton.mp hb]; exact Or.inr hB
    nd := by
      have nd := S'.nd
      rw [e0] at nd hn
      rw [e1, List.append_assoc]
      rw [List.nodup_append] at nd ⊢
      refine ⟨nd.1, ?_, fun x hx y hy => ?_⟩
      · exact List.nodup_cons.mpr ⟨hn2, nd.2.1⟩
      · rcases List.mem_cons.mp hy with rfl | hy
        · rintro rfl
          exact hn (List.mem_append.mpr (.inl hx))
        · exact nd.2.2 x hx y hy
    fr := ⟨m, hm, hr, fun _ _ => look m hm⟩
    fl := fun ds' e => by cases e; exact ⟨vs, n, ha', hl, r⟩
    ce := S'.ce
    sg := S'.sg }
theorem St.fresh_out {B : Heap} {mu : List Addr} {K₀ : Kn} {fa a : Addr} {K : Kn} {h : Heap} (S : St C B mu K₀ fa ρ fo K st h) (hn : h.get? a = none) : K a = none ∧ B.get? a = none ∧ a ∉ ownL C fa fo ++ C.fp := by
  refine ⟨S.kfresh hn, ?_, fun hm => ?_⟩
  · cases e : B.get? a with
    | none => rfl
    | some o =>
      have := S.ex a (by rw [e]; rfl)
      rw [hn] at this; cases this
  · have := (S.mt a hm).2
    rw [hn] at this; cases this
theorem Ex.own {p lp pos : Pos} {es : List Expr} {ds : List Dt} (he : Es C ρ none st es ds st1) (hx : stor C fnd) (hl : ds.length ≤ lim) (hg : ρ.get fnd = none) (h : P .next ρ (some ds) st1) :
    Ex C ρ none st (.Assign [.Name fnd p] (.List es lp) pos) P :=
  fun B mu K₀ fa K s Q E S q => wpAny_Assign_Name (List_ (he lp B mu K₀ fa K s _ E S fun vs h1 tk1 K1 k1 S1 r1 => by
    refine wpAny_newObj_type ?_ ?_
    · obtain ⟨a1, a2, a3⟩ := S1.fresh_out (size_none h1)
      exact (S1.pushed (lobj vs 0)).storeOwn (s := ⟨h1.push (lobj vs 0), _, _, _, _⟩) hx (Heap.get?_push_size _ rfl) a1 a2 a3 hl r1 hg fun h2 tk2 S2 => q .next h2 tk2 K1 _ .next ρ (some ds) st1 h k1 S2 trivial
    · show vs.toArray.size ≤ sizeLine
      rw [List.size_toArray, r1.length]; exact lim_line hl)) rfl
/-- names and constants: nothing is made -/
inductive Sim (ρ : Ro) : Expr → Dt → Prop
  | name {x : Str} {p : Pos} {d : Dt} : ρ.get x = some d → (x == ("__debug__" : Str)) = false → Sim ρ (.Name x p) d
  | cint {i : Int} {k : Nat} {p : Pos} : Sim ρ (.Constant (.int i) k p) (.int i)
  | cbool {b : Bool} {k : Nat} {p : Pos} : Sim ρ (.Constant (.bool b) k p) (.bool b)
theorem Sim.go {e : Expr} {d : Dt} (hs : Sim ρ e d) {B : Heap} {mu : List Addr} {K₀ : Kn} {fa : Addr} {K : Kn} {s : Shared} {Q E : Value → Shared → Prop} (S : St C B mu K₀ fa ρ fo K st s.heap)
    (h : ∀ v tk, Rd C.hv K v d → Q v { s with toks := tk }) : wpAny (model C.prog C.w) C.A (eval e C.env) Q E s := by
  cases hs with
  | name hx hd =>
    obtain ⟨m, hm, hr, _⟩ := S.fr
    obtain ⟨v, l, r⟩ := hr _ d hx
    exact wpAny_Name (S.look hm l (h v s.toks r)) hd
  | cint => exact wpAny_Constant_int (h _ _ (.int ..))
  | cbool => exact Constant_bool (h _ s.toks (.bool _))
/-- found, y = [], e -/
theorem Ex.ownPar2 {p1 p2 tpos vpos lp pos : Pos} {k k' : Nat} {y : Str} {e : Expr} {d : Dt} (he : Sim ρ e d) (hy : stor C y) (hyf : y ≠ fnd) (hs : Ro.set ρ y d = some ρ') (hx : stor C fnd) (hg : ρ'.get fnd = none) (h : P .next ρ' (some []) st) (hst : noStar e = true := by rfl)
    (hw : swappedStores [.Tuple [.Name fnd p1, .Name y p2] k tpos] (.Tuple [.List [] lp, e] k' vpos) C.env = pure (some [fnd, y]) := by rfl) :
    Ex C ρ none st (.Assign [.Tuple [.Name fnd p1, .Name y p2] k tpos] (.Tuple [.List [] lp, e] k' vpos) pos) P :=
  fun B mu K₀ fa K s Q E S q => Assign_Tuple_swapped (names := [fnd, y]) (Tuple_ (by
    rw [starEach_cons (e := .List [] lp) rfl, starEach_cons hst]
    refine Calls.spliced_cons (List_ (Calls.spliced_nil (wpAny_newObj_type ?_)))
    obtain ⟨a1, a2, a3⟩ := S.fresh_out (size_none s.heap)
    have S1 := S.pushed (lobj [] 0)
    have h1 : (s.heap.push (lobj [] 0)).get? s.heap.objs.size = some (lobj [] 0) := Heap.get?_push_size _ rfl
    refine Calls.spliced_cons (he.go (s := { s with heap := s.heap.push (lobj [] 0) }) S1 fun v tk r => Calls.spliced_nil (wpAny_newObj_type ?_))
    refine unpackItems_tuple (items := #[.ref s.heap.objs.size, v]) S.ok.hh ⟨_, Heap.get?_push_size _ rfl, rfl, 0, rfl⟩ fun h' he => ?_
    have kp : ∀ b o, (s.heap.push (lobj [] 0)).get? b = some o → h'.get? b = some o := fun b o e => by
      have e' := Heap.get?_push_of_some { cls := .type "tuple", data := .seq [Value.ref s.heap.objs.size, v].toArray } e
      exact he b o (fun z => by rw [z] at e'; exact absurd (Heap.lt_size e') (Nat.lt_irrefl _)) e'
    have S2 := S1.keeps kp
    refine wpAny_bind (wpAny_holding (wpAny_bindName (S2.storeAny (s := ⟨h', _, _, _, _⟩) hy fun h2 tk2 keep _ g => ?_)))
    have S3 := g ρ' (fun z e' he' => by
      rw [Ro.get_set hs] at he'
      by_cases hz : z = y
      · rw [if_pos hz] at he' ⊢; cases he'; exact r
      · rw [if_neg hz] at he' ⊢; exact he') (Or.inr rfl)
    have a3' : s.heap.objs.size ∉ ownL C fa none := fun z => a3 (List.mem_append.mpr (.inl z))
    refine wpAny_bind (wpAny_holding (wpAny_bindName (S3.storeOwn (s := ⟨h2, _, _, _, _⟩) hx (keep _ _ (kp _ _ h1) a3') a1 a2 a3 (Nat.zero_le _) .nil hg fun h3 tk3 S4 => wpAny_pure (q .next h3 tk3 K _ .next ρ' (some []) st h (.refl _) S4 trivial))))))
    rfl hw
/-- x, y, found, z = e, e, [], e -/
theorem Ex.ownPar4 {p1 p2 p3 p4 tpos vpos lp pos : Pos} {k k' : Nat} {x y z : Str} {e1 e2 e3 : Expr} {d1 d2 d3 : Dt} (h1 : Sim ρ e1 d1) (h2 : Sim ρ e2 d2) (h3 : Sim ρ e3 d3) (hx : stor C x) (hy : stor C y) (hz : stor C z) (hf : stor C fnd)
    (hzf : z ≠ fnd) (s1 : Ro.set ρ x d1 = some ρ₁) (s2 : Ro.set ρ₁ y d2 = some ρ₂) (hg : ρ₂.get fnd = none) (s3 : Ro.set ρ₂ z d3 = some ρ') (h : P .next ρ' (some []) st)
    (n1 : noStar e1 = true := by rfl) (n2 : noStar e2 = true := by rfl) (n3 : noStar e3 = true := by rfl)
    (hw : swappedStores [.Tuple [.Name x p1, .Name y p2, .Name fnd p3, .Name z p4] k tpos] (.Tuple [e1, e2, .List [] lp, e3] k' vpos) C.env = pure none := by rfl) :
    Ex C ρ none st (.Assign [.Tuple [.Name x p1, .Name y p2, .Name fnd p3, .Name z p4] k tpos] (.Tuple [e1, e2, .List [] lp, e3] k' vpos) pos) P :=
  fun B mu K₀ fa K s Q E S q => Assign_Tuple (Tuple_ (by
    rw [starEach_cons n1, starEach_cons n2, starEach_cons (e := .List [] lp) rfl, starEach_cons n3]
    refine Calls.spliced_cons (h1.go S fun v1 tk1 r1 => Calls.spliced_cons (h2.go (s := { s with toks := tk1 }) S fun v2 tk2 r2 => Calls.spliced_cons (List_ (Calls.spliced_nil (wpAny_newObj_type ?_)))))
    obtain ⟨a1, a2, a3⟩ := S.fresh_out (size_none s.heap)
    have S1 := S.pushed (lobj [] 0)
    have g1 : (s.heap.push (lobj [] 0)).get? s.heap.objs.size = some (lobj [] 0) := Heap.get?_push_size _ rfl
    refine Calls.spliced_cons (h3.go (s := { s with heap := s.heap.push (lobj [] 0), toks := tk2 }) S1 fun v3 tk3 r3 => Calls.spliced_nil (wpAny_newObj_type ?_))
    refine wpAny_assign_Tuple (items := #[v1, v2, .ref s.heap.objs.size, v3]) S.ok.hh ⟨_, Heap.get?_push_size _ rfl, rfl, 0, rfl⟩ rfl rfl fun h' he => ?_
    have kp : ∀ b o, (s.heap.push (lobj [] 0)).get? b = some o → h'.get? b = some o := fun b o e => by
      have e' := Heap.get?_push_of_some { cls := .type "tuple", data := .seq [v1, v2, Value.ref s.heap.objs.size, v3].toArray } e
      exact he b o (fun z => by rw [z] at e'; exact absurd (Heap.lt_size e') (Nat.lt_irrefl _)) e'
    have S2 := S1.keeps kp
    have a3' : s.heap.objs.size ∉ ownL C fa none := fun z => a3 (List.mem_append.mpr (.inl z))
    have up : ∀ {ρ ρ' : Ro} {x : Str} {d : Dt} {v : Value}, Ro.set ρ x d = some ρ' → Rd C.hv K v d → ∀ z e', ρ'.get z = some e' → if z = x then Rd C.hv K v e' else ρ.get z = some e' := fun {ρ ρ' x d v} hs r z e' he' => by
      rw [Ro.get_set hs] at he'
      by_cases hz : z = x
      · rw [if_pos hz] at he' ⊢; cases he'; exact r
      · rw [if_neg hz] at he' ⊢; exact he'
    refine wpAny_bind (wpAny_holding (wpAny_assign_Name (S2.storeAny (s := ⟨h', _, _, _, _⟩) hx fun t1 tk4 keep1 _ b1 => ?_)))
    have S3 := b1 ρ₁ (up s1 r1) (Or.inr rfl)
    refine wpAny_bind (wpAny_holding (wpAny_assign_Name (S3.storeAny (s := ⟨t1, _, _, _, _⟩) hy fun t2 tk5 keep2 _ b2 => ?_)))
    have S4 := b2 ρ₂ (up s2 r2) (Or.inr rfl)
    refine wpAny_bind (wpAny_holding (wpAny_assign_Name (S4.storeOwn (s := ⟨t2, _, _, _, _⟩) hf (keep2 _ _ (keep1 _ _ (kp _ _ g1) a3') a3') a1 a2 a3 (Nat.zero_le _) .nil hg fun t3 tk6 S5 => ?_)))
    exact wpAny_bind (wpAny_holding (wpAny_assign_Name (S5.store (s := ⟨t3, _, _, _, _⟩) hz r3 s3 (Or.inl hzf) fun t4 tk7 S6 => wpAny_pure (q .next t4 tk7 K _ .next ρ' (some []) st h (.refl _) S6 trivial))))))
    rfl hw
end
end Mine
end
section
open PySem PyProof.Rows
set_option linter.unusedVariables false
set_option linter.unusedSimpArgs false
namespace Mine
section
variable {σ : Type} {C : Cx σ} {ρ ρ' ρ₁ ρ₂ : Ro} {fo fo' : Option (List Dt)} {ds : List Dt} {st st1 st2 st3 : σ} {P : Post σ}
theorem St.ownName {B : Heap} {mu : List Addr} {K₀ : Kn} {fa : Addr} {K : Kn} {s : Shared} {p : Pos} {Q E : Value → Shared → Prop} (S : St C B mu K₀ fa ρ (some ds) K st s.heap) (h : Q (.ref fa) s) :
    wpAny (model C.prog C.w) C.A (eval (.Name fnd p) C.env) Q E s := by
  obtain ⟨m, hm, _, hf⟩ := S.fr
  exact wpAny_Name (S.look hm (hf ds rfl) h)
theorem Ev.ownItem {p pos : Pos} {ie : Expr} {k : Int} {j : Nat} {d : Dt} (hi : Ev C ρ (some ds) st ie (.int k) st1) (hlo : -(2 ^ 63) ≤ k) (hhi : k < 2 ^ 63) (hj : seqIndex? k ds.length = some j) (hd : ds[j]? = some d) (hs : noSlice ie = true := by rfl) :
    Ev C ρ (some ds) st (.Subscript (.Name fnd p) ie pos) d st1 :=
  fun B mu K₀ fa K s Q E S h => Subscript_ (S.ownName (hi B mu K₀ fa K s _ E S fun v h1 tk1 K1 k1 S1 r1 => by
    obtain ⟨t, rfl⟩ := r1.int_inv
    obtain ⟨vs, n, g, hl, r⟩ := S1.fl ds rfl
    obtain ⟨x, hx, rx⟩ := r.get hd
    exact getItem_listR (s := { s with heap := h1, toks := tk1 }) ⟨_, g, rfl, n, rfl⟩ hlo hhi (by rw [r.length]; exact hj) hx hs (h x h1 tk1 K1 k1 S1 rx)))
theorem St.ownRd {B : Heap} {mu : List Addr} {K₀ : Kn} {fa : Addr} {K : Kn} {h : Heap} (S : St C B mu K₀ fa ρ (some ds) K st h) : ∃ o, Rd C.hv (kadd K fa o) (.ref fa) (.lst ds) ∧ (∀ a o', kadd K fa o a = some o' → h.get? a = some o') ∧ KLe K (kadd K fa o) ∧ h.get? fa = some o := by
  obtain ⟨vs, n, g, hl, r⟩ := S.fl ds rfl
  have kf : K fa = none := (S.mt fa (List.mem_append.mpr (.inl (by simp [ownL])))).1
  have le : KLe K (kadd K fa (lobj vs n)) := fun b o' e => by
    unfold kadd
    rw [if_neg (fun q => by rw [q, kf] at e; cases e)]; exact e
  refine ⟨lobj vs n, .lst (kadd_self ..) rfl rfl hl (r.mono le), fun a o' e => ?_, le, g⟩
  unfold kadd at e
  by_cases q : a = fa
  · rw [if_pos q] at e; cases e; rw [q]; exact g
  · rw [if_neg q] at e; exact S.kn a o' e
theorem Tst.ownNe {p lp pos : Pos} (ok : okD (.lst ds)) : Tst C ρ (some ds) st (.Compare (.Name fnd p) [.NotEq] [.List [] lp] pos) (!ds.isEmpty) st :=
  fun B mu K₀ fa K s Q E S h => wpAny_isTrue_Compare1 (S.ownName (Ev.list (Es.nil (C := C) (ρ := ρ) (fo := some ds) (st := st)) (Nat.zero_le _) B mu K₀ fa K s _ E S fun v h1 tk1 K1 k1 S1 r1 => by
    obtain ⟨o, r, hk, le, _⟩ := S1.ownRd
    obtain ⟨as, q⟩ := rd_reads hk 8 r ok
    obtain ⟨bs, p⟩ := rd_reads S1.kn 8 r1 okD_nil
    exact ne_dataH (s := { s with heap := h1, toks := tk1 }) q p (okD_shaped ok) (okD_shaped okD_nil) (by have := S.ok.un; omega) (by
      rw [eqv_nil ok]
      exact wpAny_truthy_bool (h h1 tk1 K1 k1 S1)))) rfl
/-- the owned list turned, all else as it was -/
theorem St.turn {B : Heap} {mu : List Addr} {K₀ : Kn} {fa : Addr} {K : Kn} {h h' : Heap} {es : List Dt} {vs : List Value} {n : Nat} (S : St C B mu K₀ fa ρ (some ds) K st h) (hs : Heap.SameBut fa h h')
    (g : h'.get? fa = some (lobj vs n)) (hl : es.length ≤ lim) (r : Rds C.hv K vs es) : St C B mu K₀ fa ρ (some es) K st h' := by
  have ks : ∀ b, (h.get? b).isSome = true → (h'.get? b).isSome = true := fun b hb => by
    by_cases e : b = fa
    · subst e; rw [g]; rfl
    · rw [hs.2 b e]; exact hb
  have fown : fa ∈ ownL C fa (some ds) := by simp [ownL]
  have kf : K fa = none := (S.mt fa (List.mem_append.mpr (.inl fown))).1
  have nd := S.nd
  have ffp : fa ∉ C.fp := fun hm' => by
    rw [List.nodup_append] at nd
    exact nd.2.2 _ fown _ hm' rfl
  obtain ⟨m, hm, hr, hf⟩ := S.fr
  obtain ⟨vs₀, n₀, g₀, _, _⟩ := S.fl ds rfl
  have fL : fa ≠ C.env.locals := list_ne hm g₀
  have fc : ∀ c v, h.IsCell c v → c ≠ fa := fun c v i q => by
    obtain ⟨o, ho, hd⟩ := i
    rw [q, g₀] at ho; cases ho; cases hd
  have lk : ∀ x v, Look C m h x v → Look C m h' x v := fun x v l => l.imp id fun ⟨a, c, b, i⟩ => ⟨a, c, b, i.sameBut hs (fc _ _ i)⟩
  exact {
    ok := S.ok
    base := fun b o e hb hf' => by
      have : b ≠ fa := fun z => by
        rcases S.ow fa fown with w | w
        · exact hb (z ▸ w)
        · rw [z, w] at e; cases e
      exact (hs.2 b this).trans (S.base b o e hb hf')
    ex := fun b hb => ks b (S.ex b hb)
    kx := S.kx
    kn := fun a o e => (hs.2 a (fun z => by rw [z, kf] at e; cases e)).trans (S.kn a o e)
    top := S.top
    mt := fun a ha => ⟨(S.mt a ha).1, ks a (S.mt a ha).2⟩
    ow := S.ow
    nd := S.nd
    fr := ⟨m, hm.sameBut hs (Ne.symm fL), fun x d e => let ⟨v, l, r⟩ := hr x d e; ⟨v, lk x v l, r⟩, fun _ _ => lk _ _ (hf ds rfl)⟩
    fl := fun ds' e => by cases e; exact ⟨vs, n, g, hl, r⟩
    ce := fun p hp => let ⟨v, i⟩ := S.ce p hp; ⟨v, i.sameBut hs (fc _ _ i)⟩
    sg := S.ok.sgk st _ _ (fun a ha o e => (hs.2 a (fun z => ffp (z ▸ ha))).trans e) S.sg }
/-- list.append, told exactly -/
theorem append_exact {s : Shared} {prog : Program} {w : World} {A : Around} {l : Addr} {vs : List Value} {n : Nat} {x : Value} {Q E : Value → Shared → Prop} (hl : s.heap.get? l = some (lobj vs n)) (hz : vs.length ≤ lim)
    (q : ∀ h', h'.get? l = some (lobj (vs ++ [x]) (n + 1)) → Heap.SameBut l s.heap h' → Q .none { s with heap := h' }) : wpAny (model prog w) A (call (.builtin "list.append") [.ref l, x]) Q E s := by
  have hT : s.TypeIs (.ref l) "list" := ⟨_, hl, rfl⟩
  refine wpAny_call_entry slot_list_append hT entry_list_append ?_ (args_list_append _ _)
  show wpAny _ _ (updateSeq l (·.push x) >>= fun _ => ret .none) _ _ s
  refine wpAny_bind (wpAny_updateSeq hl rfl (wpAny_pure ⟨.none, rfl, q _ ?_ (Heap.SameBut.update ..)⟩) (by rw [List.size_toArray]; exact lim_line hz) (by simpa using lim_line hz))
  rw [Heap.get?_update_self _ hl (by rfl)]
  simp [Obj.mapSeq, lobj]
theorem evalArgs_ns {M : Model} {A : Around} {s : Shared} {E : Value → Shared → Prop} {f : Value} {args : List (Bool × Sem Value)} {Q : Args → Shared → Prop} (hn : args.any (·.1) = false) (h : wpAny M A (spliced args) (fun vs s' => Q ⟨vs, []⟩ s') E s) :
    wpAny M A (evalArgs f true args []) Q E s := by
  cases args with
  | nil =>
    unfold evalArgs
    show wpAny M A (spliced [] >>= _) Q E s
    refine wpAny_bind (wpAny_mono h (fun vs s' h' => ?_) fun _ _ x => x)
    refine wpAny_holding ?_
    exact wpAny_bind (wpAny_pure (wpAny_bind (wpAny_pure (wpAny_pure h'))))
  | cons a r =>
    obtain ⟨b, x⟩ := a
    rw [List.any_cons, Bool.or_eq_false_iff] at hn
    have : b = false := hn.1
    subst this
    exact Calls.evalArgs_plain h
theorem Ex.append {p1 apos cpos pos : Pos} {e : Expr} {d : Dt} {pl : Sem Bool} (he : Ev C ρ (some ds) st e d st1) (hl : ds.length < lim) (h : P .next ρ (some (ds ++ [d])) st1) (hn : noStar e = true := by rfl)
    (hc : eval (.Call (.Attribute (.Name fnd p1) "append" apos) [e] [] cpos) C.env = (do
      let ov ← eval (.Name fnd p1) C.env
      standAt apos.atName
      let (f, first) ← holding [ov] (getMethod ov "append" pl)
      callWith cpos f first (backTo cpos (starEach [e] C.env)) []) := by rfl)
    (hi : interactive C.env = false := by rfl) (hs : swapsWith (.Call (.Attribute (.Name fnd p1) "append" apos) [e] [] cpos) none pos.line C.env = pure false := by rfl) :
    Ex C ρ (some ds) st (.Expr (.Call (.Attribute (.Name fnd p1) "append" apos) [e] [] cpos) pos) P :=
  fun B mu K₀ fa K s Q E S q => wpAny_Expr (MethodCall_ (S.ownName (by
    obtain ⟨vs, n, g, hz, r⟩ := S.fl ds rfl
    refine Calls.getMethod_list_append g rfl rfl ?_
    refine Calls.callWith_builtin (by rw [starEach_cons hn]; rfl) (evalArgs_ns (by rw [starEach_cons hn]; rfl) ((Es.cons he Es.nil hn) cpos B mu K₀ fa K s _ E S fun us h1 tk1 K1 k1 S1 r1 => ?_))
    obtain ⟨u, ru, rfl⟩ := r1.one'
    obtain ⟨vs, n, g, hz, r⟩ := S1.fl ds rfl
    exact append_exact (s := { s with heap := h1, toks := tk1 }) g (by rw [r.length]; exact hz) fun h2 g2 hs2 => q .next h2 tk1 K1 fa .next ρ (some (ds ++ [d])) st1 h k1 (S1.turn hs2 g2 (by simp; omega) (r.append (.one ru))) trivial)) hc) hi hs
end
end Mine
end
section
open PySem PyProof.Rows
set_option linter.unusedVariables false
set_option linter.unusedSimpArgs false
namespace Mine
theorem setLast_exact {s : Shared} {prog : Program} {w : World} {A : Around} {l : Addr} {vs : List Value} {n : Nat} {x : Value} {t : Tok} {Q : Unit → Shared → Prop} {E : Value → Shared → Prop} (hl : s.heap.get? l = some (lobj vs n)) (hne : 0 < vs.length)
    (q : ∀ h' n', h'.get? l = some (lobj (vs.set (vs.length - 1) x) n') → Heap.SameBut l s.heap h' → Q () { s with heap := h' }) : wpAny (model prog w) A (setItem (.ref l) (.int (-1) t) x) Q E s := by
  have hT : s.TypeIs (.ref l) "list" := ⟨_, hl, rfl⟩
  have hd : (lobj vs n).data = .seq vs.toArray n := rfl
  unfold setItem
  try with_reducible refine wpAny_holding ?_
  first | refine wpAny_bind (wpAny_pure ?_) | skip
  refine wpAny_bind (wpAny_sequenceKey hT (by decide) ?_)
  refine wpAny_bind (wpAny_callSpecial?_slot (name := Str.ofString "__setitem__") hT slot_list_setitem
    (wpAny_call_entry slot_list_setitem hT entry_list_setitem ?_ (args_list_setitem _ _ _)))
  show wpAny _ _ (Builtin.List.listSubscript? (.int (-1) t) >>= _) _ _ s
  refine wpAny_bind (wpAny_listSubscript_int (fitsIndex_neg (by decide) (by decide)) ?_)
  have hidx := PySem.seqIndex_neg (k := -1) (n := vs.length) (by decide) (by omega)
  have ej : (-1 + (vs.length : Int)).toNat = vs.length - 1 := by omega
  rw [ej] at hidx
  have hj : vs.length - 1 < vs.length := by omega
  have hx : vs.toArray[vs.length - 1]? = some (vs[vs.length - 1]'hj) := by simp [hj]
  show wpAny _ _ ((Builtin.List.listItems (.ref l) >>= fun xs => pure ((seqIndex? (-1) xs.size).bind fun i => xs[i]?.map (i, ·))) >>= _) _ _ s
  refine wpAny_bind (wpAny_bind ?_)
  show wpAny _ _ (seqItems? (.ref l) >>= _) _ _ s
  refine wpAny_bind (wpAny_seqItems hl hd (wpAny_pure (wpAny_pure ?_)))
  rw [List.size_toArray, hidx]
  simp only [Option.bind_some, hx, Option.map_some]
  show wpAny _ _ (setSeqItemAt l (vs.length - 1) x >>= _) _ _ s
  refine wpAny_bind (wpAny_setSeqItemAt hl hd ?_)
  have hfin : ∃ n', (s.heap.update l (Obj.mapSeq (·.setIfInBounds (vs.length - 1) x))).get? l = some (lobj (vs.set (vs.length - 1) x) n') := by
    rw [Heap.get?_update_self _ hl (by rfl)]
    exact ⟨_, by simp only [Obj.mapSeq, lobj, List.setIfInBounds_toArray]; rfl⟩
  obtain ⟨n', hfin⟩ := hfin
  first
    | exact wpAny_bind (wpAny_pure (wpAny_pure ⟨.none, rfl, wpAny_pure (q _ n' hfin (Heap.SameBut.update ..))⟩))
    | exact wpAny_pure ⟨.none, rfl, wpAny_pure (q _ n' hfin (Heap.SameBut.update ..))⟩
section
variable {σ : Type} {C : Cx σ} {ρ ρ' ρ₁ ρ₂ : Ro} {fo fo' : Option (List Dt)} {ds : List Dt} {st st1 st2 st3 : σ} {P : Post σ}
theorem Ex.setLast {p spos pos : Pos} {ie value : Expr} {d : Dt} (hv : Ev C ρ (some ds) st value d st1) (hi : Ev C ρ (some ds) st1 ie (.int (-1)) st2) (hne : 0 < ds.length) (h : P .next ρ (some (ds.set (ds.length - 1) d)) st2)
    (hs : swapsWith value (some (.Subscript (.Name fnd p) ie spos)) pos.line C.env = pure false := by rfl) : Ex C ρ (some ds) st (.Assign [.Subscript (.Name fnd p) ie spos] value pos) P :=
  fun B mu K₀ fa K s Q E S q => wpAny_Assign_Subscript (hv B mu K₀ fa K s _ E S fun v h1 tk1 K1 k1 S1 r1 => S1.ownName (s := { s with heap := h1, toks := tk1 }) (hi B mu K₀ fa K1 { s with heap := h1, toks := tk1 } _ E S1 fun u h2 tk2 K2 k2 S2 r2 => by
    obtain ⟨t, rfl⟩ := r2.int_inv
    obtain ⟨vs, n, g, hz, r⟩ := S2.fl ds rfl
    have e := r.length
    exact setLast_exact (s := { s with heap := h2, toks := tk2 }) g (by omega) fun h3 n3 g3 hs3 => q .next h3 tk2 K2 fa .next ρ _ st2 h (k1.trans k2) (S2.turn hs3 g3 (by simpa using hz) (by rw [e]; exact r.set (r1.mono k2) _)) trivial)) hs
/-- the owned list given away -/
theorem St.freeze {B : Heap} {mu : List Addr} {K₀ : Kn} {fa : Addr} {K : Kn} {h : Heap} (S : St C B mu K₀ fa ρ (some ds) K st h) : ∃ K', KLe K K' ∧ St C B mu K₀ fa ((fnd, some (.lst ds)) :: ρ) none K' st h := by
  obtain ⟨o, r, hk, le, g⟩ := S.ownRd
  refine ⟨kadd K fa o, le, ?_⟩
  obtain ⟨m, hm, hr, hf⟩ := S.fr
  have fown : fa ∈ ownL C fa (some ds) := by simp [ownL]
  have e0 : ownL C fa none = C.env.locals :: C.stc.map (·.2) := by simp [ownL]
  have e1 : ownL C fa (some ds) = (C.env.locals :: C.stc.map (·.2)) ++ [fa] := by simp [ownL]
  have sub : ∀ b ∈ ownL C fa none ++ C.fp, b ∈ ownL C fa (some ds) ++ C.fp ∧ b ≠ fa := fun b hb => by
    have nd := S.nd
    rw [e1, List.nodup_append, List.nodup_append] at nd
    rw [e0] at hb
    rw [e1]
    rcases List.mem_append.mp hb with hb | hb
    · exact ⟨List.mem_append.mpr (.inl (List.mem_append.mpr (.inl hb))), fun z => nd.1.2.2 b hb fa (by simp) z⟩
    · exact ⟨List.mem_append.mpr (.inr hb), fun z => nd.2.2 fa (by simp) b hb z.symm⟩
  exact {
    ok := S.ok
    base := S.base
    ex := S.ex
    kx := fun a o' e => by
      unfold kadd at e
      by_cases q : a = fa
      · rcases S.ow fa fown with w | w
        · exact Or.inr (Or.inr (q ▸ w))
        · exact Or.inr (Or.inl (q ▸ w))
      · rw [if_neg q] at e; exact S.kx a o' e
    kn := hk
    top := fun a o' e => le _ _ (S.top a o' e)
    mt := fun b hb => ⟨by unfold kadd; rw [if_neg (sub b hb).2]; exact (S.mt b (sub b hb).1).1, (S.mt b (sub b hb).1).2⟩
    ow := fun b hb => by
      have := (sub b (List.mem_append.mpr (.inl hb))).2
      refine S.ow b ?_
      rw [e0] at hb
      rw [e1]; exact List.mem_append.mpr (.inl hb)
    nd := by
      have nd := S.nd
      rw [e1, List.nodup_append, List.nodup_append] at nd
      rw [e0, List.nodup_append]
      exact ⟨nd.1.1, nd.2.1, fun x hx y hy => nd.2.2 x (List.mem_append.mpr (.inl hx)) y hy⟩
    fr := ⟨m, hm, fun x d e => by
      by_cases q : x = fnd
      · subst q
        have : d = .lst ds := by simpa [Ro.get] using e.symm
        subst this
        exact ⟨_, hf ds rfl, r⟩
      · have hb : (x == fnd) = false := by simpa using q
        have : ρ.get x = some d := by simpa [Ro.get, List.lookup_cons, hb] using e
        obtain ⟨v, l, r'⟩ := hr x d this
        exact ⟨v, l, r'.mono le⟩, fun _ e => by cases e⟩
    fl := fun _ e => by cases e
    ce := S.ce
    sg := S.sg }
theorem Ex.retOwn {e : Expr} {pos : Pos} {d : Dt} (he : Ev C ((fnd, some (.lst ds)) :: ρ) none st e d st1) (h : P (.ret d) ((fnd, some (.lst ds)) :: ρ) none st1) : Ex C ρ (some ds) st (.Return (some e) pos) P :=
  fun B mu K₀ fa K s Q E S q => by
    obtain ⟨K', k, S'⟩ := S.freeze
    exact Ex.ret (P := P) he h B mu K₀ fa K' s Q E S' fun f h1 tk1 K1 fa1 fl ρ1 fo1 st1 p k1 S1 r1 => q f h1 tk1 K1 fa1 fl ρ1 fo1 st1 p (k.trans k1) S1 r1
theorem Ev.callB {f : Str} {p pos : Pos} {args : List Expr} {ds : List Dt} {d : Dt} {v : Value} (hf : builtF.lookup f = some v) (ha : Es C ρ fo st args ds st1) (ho : CallR v ds d) (hk : C.env.kindOf f = some .globalImplicit := by rfl) (hs : noStars args = true := by rfl)
    (hd : (f == ("__debug__" : Str)) = false := by decide) : Ev C ρ fo st (.Call (.Name f p) args [] pos) d st1 :=
  fun B mu K₀ fa K s Q E S h => wpAny_Call_NameR (S.builtName hk (S.ok.bl f v hf).1 (S.ok.bl f v hf).2 (by
    have go : ∀ (T : Value), wpAny (model C.prog C.w) C.A (spliced (backTo pos (starEach args C.env))) (fun vs s' => wpAny (model C.prog C.w) C.A (call v vs []) Q E s') E s := fun _ =>
      ha pos B mu K₀ fa K s _ E S fun vs h1 tk1 K1 k1 S1 r1 => call_sound (s := { s with heap := h1, toks := tk1 }) ho S1 r1 fun w h2 tk2 K2 k2 S2 r2 => h w h2 tk2 K2 (k1.trans k2) S2 r2
    cases ho <;> first
      | exact Calls.callWith_builtin (any_star hs) (evalArgs_ns (any_star hs) (go .none))
      | exact PyProof.Rows.callWith_type (any_star hs) (evalArgs_ns (any_star hs) (go .none))) hd)
/-- a def of the text, called in our states -/
noncomputable def FnOk (C : Cx σ) (f : Str) (ds : List Dt) (st : σ) (d : Dt) (st' : σ) : Prop :=
  ∃ (a : Addr) (o : Obj) (fd : FuncData), C.mg f = some (.ref a) ∧ C.g₀.get? a = some o ∧ o.data = .func fd ∧
    ∀ (B : Heap) (mu : List Addr) (K₀ : Kn) (fa : Addr) (ρ : Ro) (fo : Option (List Dt)) (K : Kn) (s : Shared) (vs : List Value) (Q E : Value → Shared → Prop), St C B mu K₀ fa ρ fo K st s.heap → Rds C.hv K vs ds →
      (∀ v h' tk K', KLe K K' → St C B mu K₀ fa ρ fo K' st' h' → Rd C.hv K' v d → Q v { s with heap := h', toks := tk }) → wpAny (model C.prog C.w) C.A (call (.ref a) vs) Q E s
theorem Ev.callF {f : Str} {p pos : Pos} {args : List Expr} {ds : List Dt} {d : Dt} (ha : Es C ρ fo st args ds st1) (ho : FnOk C f ds st1 d st2) (hk : C.env.kindOf f = some .globalImplicit := by rfl) (hs : noStars args = true := by rfl)
    (hd : (f == ("__debug__" : Str)) = false := by decide) : Ev C ρ fo st (.Call (.Name f p) args [] pos) d st2 :=
  fun B mu K₀ fa K s Q E S h => by
    obtain ⟨a, o, fd, h1, h2, h3, h4⟩ := ho
    refine wpAny_Call_NameR (S.globName hk h1 (Calls.callWith_function (o := o) (fd := fd) (evalArgs_ns (any_star hs) (ha pos B mu K₀ fa K s _ E S fun vs h1 tk1 K1 k1 S1 r1 => ⟨⟨S1.gk _ _ h2, h3⟩, ?_⟩))) hd)
    exact h4 B mu K₀ fa ρ fo K1 { s with heap := h1, toks := tk1 } vs Q E S1 r1 fun w h2 tk2 K2 k2 S2 r2 => h w h2 tk2 K2 (k1.trans k2) S2 r2
end
end Mine
end
section
open PySem PyProof.Rows
set_option linter.unusedVariables false
set_option linter.unusedSimpArgs false
namespace Mine
noncomputable abbrev ownerTypes : List String := ["enumerate", "zip", "dict_itemiterator", "dict_reverseitemiterator", "odict_iterator", "itertools.zip_longest", "itertools.pairwise"]
noncomputable def plainIt (h : Heap) (I : Addr) : Prop := ∃ o n, h.get? I = some o ∧ o.cls = .type n ∧ ownerTypes.contains n = false ∧ ∃ fs, o.data = .fields fs
theorem letOwned_plain {M : Model} {A : Around} {s : Shared} {E : Value → Shared → Prop} {target : Expr} {I : Addr} {v : Value} {Q : Unit → Shared → Prop} (p : plainIt s.heap I) (h : Q () s) : wpAny M A (letOwnedTupleGo target (.ref I) v) Q E s := by
  obtain ⟨o, n, ho, hc, hn, _⟩ := p
  have key : ∀ a, wpAny M A (do
      let o ← load I
      match o.cls, o.data with
      | .type n, .fields vs =>
        if ownerTypes.contains n && vs[0]? == some (rawInt a) then
          rule "for.unpacks-the-owned-tuple"
          updateField I 0 .none
      | _, _ => pure ()) Q E s := fun a => by
    refine wpAny_bind (wpAny_load ho ?_)
    obtain ⟨c, d, dat, sl⟩ := o
    cases hc
    cases dat with
    | fields vs =>
      show wpAny M A (if (ownerTypes.contains n && vs[0]? == some (rawInt a)) = true then _ else _) Q E s
      rw [hn, Bool.false_and, if_neg Bool.false_ne_true]
      exact wpAny_pure h
    | _ => exact wpAny_pure h
  cases target with
  | Tuple es k p =>
    cases v with
    | ref a => exact key a
    | _ => exact wpAny_pure h
  | List es p =>
    cases v with
    | ref a => exact key a
    | _ => exact wpAny_pure h
  | _ => exact wpAny_pure h
section
variable {σ : Type} {C : Cx σ} {ρ ρ' ρ₁ ρ₂ : Ro} {fo fo' : Option (List Dt)} {ds : List Dt} {st st1 st2 st3 : σ} {P : Post σ}
/-- what a loop takes its items from -/
noncomputable def It (C : Cx σ) (ρ : Ro) (fo : Option (List Dt)) (st : σ) (e : Expr) (ds : List Dt) (st' : σ) : Prop :=
  ∀ (B : Heap) (mu : List Addr) (K₀ : Kn) (fa : Addr) (K : Kn) (s : Shared) (Q E : Value → Shared → Prop), St C B mu K₀ fa ρ fo K st s.heap →
    (∀ (I : Addr) (h' : Heap) (tk : Nat) (K' : Kn) (fp' : List Addr) (P : Nat → Value → Prop) (Stt : Nat → Heap → Prop), KLe K K' → St C B mu K₀ fa ρ fo K' st' h' → Walks C.prog C.w C.A I fp' [I] ds.length P Stt → Stt 0 h' →
      (∀ b ∈ fp', (h'.get? b).isSome = true ∧ b ∉ ownL C fa fo ++ C.fp) → K' I = none ∧ B.get? I = none → (∀ i v, i < ds.length → P i v → ∃ d, ds[i]? = some d ∧ Rd C.hv K' v d) → (∀ i h, Stt i h → plainIt h I) → ds.length ≤ lim →
      Q (.ref I) { s with heap := h', toks := tk }) →
    wpAny (model C.prog C.w) C.A (eval e C.env) (fun x s₁ => wpAny (model C.prog C.w) C.A (pyIter x) Q E s₁) E s
theorem St.notOwn {B : Heap} {mu : List Addr} {K₀ : Kn} {fa a : Addr} {K : Kn} {h : Heap} {o : Obj} (S : St C B mu K₀ fa ρ fo K st h) (hk : K a = some o) : a ∉ ownL C fa fo ++ C.fp := fun hm => by
  have := (S.mt a hm).1
  rw [hk] at this; cases this
theorem It.list {e : Expr} (he : Ev C ρ fo st e (.lst ds) st1) : It C ρ fo st e ds st1 :=
  fun B mu K₀ fa K s Q E S h => he B mu K₀ fa K s _ E S fun v h1 tk1 K1 k1 S1 r1 => by
    obtain ⟨b, o, vs, n, rfl, f1, f2, f3, f4, f5⟩ := r1.lst_inv
    have hl : h1.IsList b vs.toArray := ⟨o, S1.kn _ _ f1, f2, n, f3⟩
    have hne : b ≠ h1.objs.size := fun z => by have := S1.kn _ _ f1; rw [z, size_none] at this; cases this
    refine wpAny_pyIter_list (s := { s with heap := h1, toks := tk1 }) hl ?_
    obtain ⟨a1, a2, a3⟩ := S1.fresh_out (size_none h1)
    have S2 := S1.pushed { cls := .type "list_iterator", data := .fields #[.ref b, .int 0 0] }
    have W := Walks.list (prog := C.prog) (w := C.w) S1.ok.hh h1.objs.size b hne vs.toArray
    have e : vs.toArray.size = ds.length := by rw [List.size_toArray, f5.length]
    rw [e] at W
    refine h _ _ _ _ _ _ _ k1 S2 W ⟨⟨_, Heap.get?_push_size _ rfl, rfl, rfl⟩, hl.push _⟩ (fun x hx => ?_) ⟨a1, a2⟩ (fun i v hi hv => ?_) (fun i h hs => ?_) f4
    · rcases List.mem_cons.mp hx with rfl | hx
      · exact ⟨by rw [Heap.get?_push_size _ rfl]; rfl, a3⟩
      · rw [List.mem_singleton.mp hx]
        exact ⟨by rw [S2.kn _ _ f1]; rfl, S1.notOwn f1⟩
    · exact f5.get' (by simpa using hv)
    · obtain ⟨⟨o, h1, h2, h3⟩, _⟩ := hs
      exact ⟨o, _, h1, h2, by decide, _, h3⟩
theorem It.tup {e : Expr} (he : Ev C ρ fo st e (.tup ds) st1) : It C ρ fo st e ds st1 :=
  fun B mu K₀ fa K s Q E S h => he B mu K₀ fa K s _ E S fun v h1 tk1 K1 k1 S1 r1 => by
    obtain ⟨b, o, vs, n, rfl, f1, f2, f3, f4, f5⟩ := r1.tup_inv
    have hl : h1.IsTuple b vs.toArray := ⟨o, S1.kn _ _ f1, f2, n, f3⟩
    have hne : b ≠ h1.objs.size := fun z => by have := S1.kn _ _ f1; rw [z, size_none] at this; cases this
    refine wpAny_pyIter_tuple (s := { s with heap := h1, toks := tk1 }) hl ?_
    obtain ⟨a1, a2, a3⟩ := S1.fresh_out (size_none h1)
    have S2 := S1.pushed { cls := .type "tuple_iterator", data := .fields #[.ref b, .int 0 0] }
    have W := Walks.tuple (prog := C.prog) (w := C.w) S1.ok.hh h1.objs.size b hne vs.toArray
    have e : vs.toArray.size = ds.length := by rw [List.size_toArray, f5.length]
    rw [e] at W
    refine h _ _ _ _ _ _ _ k1 S2 W ⟨⟨_, Heap.get?_push_size _ rfl, rfl, rfl⟩, ⟨o, S2.kn _ _ f1, f2, n, f3⟩⟩ (fun x hx => ?_) ⟨a1, a2⟩ (fun i v hi hv => ?_) (fun i h hs => ?_) f4
    · rcases List.mem_cons.mp hx with rfl | hx
      · exact ⟨by rw [Heap.get?_push_size _ rfl]; rfl, a3⟩
      · rw [List.mem_singleton.mp hx]
        exact ⟨by rw [S2.kn _ _ f1]; rfl, S1.notOwn f1⟩
    · exact f5.get' (by simpa using hv)
    · obtain ⟨⟨o, h1, h2, h3⟩, _⟩ := hs
      exact ⟨o, _, h1, h2, by decide, _, h3⟩
noncomputable def octs (l : List UInt8) : List Dt := l.map fun c => Dt.int (c.toNat : Int)
theorem It.byt {e : Expr} {l : List UInt8} (he : Ev C ρ fo st e (.bytes l) st1) : It C ρ fo st e (octs l) st1 :=
  fun B mu K₀ fa K s Q E S h => he B mu K₀ fa K s _ E S fun v h1 tk1 K1 k1 S1 r1 => by
    obtain ⟨t, rfl, hl⟩ := r1.bytes_inv
    refine W.KBw.pyIter_bytes (s := { s with heap := h1, toks := tk1 }) ?_
    obtain ⟨a1, a2, a3⟩ := S1.fresh_out (size_none h1)
    have S2 := S1.pushed { cls := .type "bytes_iterator", data := .fields #[.bytes l.toArray t, .int 0 0] }
    have W := W.KBw.walks (prog := C.prog) (w := C.w) S1.ok.hh h1.objs.size l.toArray t
    have e : l.toArray.size = (octs l).length := by simp [octs]
    rw [e] at W
    refine h _ _ _ _ _ _ _ k1 S2 W ⟨_, Heap.get?_push_size _ rfl, rfl, rfl⟩ (fun x hx => ?_) ⟨a1, a2⟩ (fun i v hi hv => ?_) (fun i h hs => ?_) (by simpa [octs] using hl)
    · rw [List.mem_singleton.mp hx]
      exact ⟨by rw [Heap.get?_push_size _ rfl]; rfl, a3⟩
    · obtain ⟨c, u, hc, rfl⟩ := hv
      have hc' : l[i]? = some c := by simpa using hc
      exact ⟨_, by simp [octs, hc'], .int ..⟩
    · obtain ⟨o, h1, h2, h3⟩ := hs
      exact ⟨o, _, h1, h2, by decide, _, h3⟩
noncomputable def ranD (a c : Int) (n : Nat) : List Dt := (List.range n).map fun (i : Nat) => Dt.int (a + (i : Int) * c)
theorem It.ofRange {s : Shared} {B : Heap} {mu : List Addr} {K₀ : Kn} {fa r : Addr} {K : Kn} {a b c : Int} {t u w : Tok} {n : Nat} {Q E : Value → Shared → Prop} (S : St C B mu K₀ fa ρ fo K st s.heap) (hr : IsRange s.heap r a b c t u w) (hs : Builtin.Range.small a b c = true)
    (hn : Builtin.Range.rangeSize a b c = (n : Int)) (hl : n ≤ lim)
    (h : ∀ (I : Addr) (h' : Heap) (tk : Nat) (K' : Kn) (fp' : List Addr) (P : Nat → Value → Prop) (Stt : Nat → Heap → Prop), KLe K K' → St C B mu K₀ fa ρ fo K' st h' → Walks C.prog C.w C.A I fp' [I] (ranD a c n).length P Stt → Stt 0 h' →
      (∀ b ∈ fp', (h'.get? b).isSome = true ∧ b ∉ ownL C fa fo ++ C.fp) → K' I = none ∧ B.get? I = none → (∀ i v, i < (ranD a c n).length → P i v → ∃ d, (ranD a c n)[i]? = some d ∧ Rd C.hv K' v d) → (∀ i h, Stt i h → plainIt h I) → (ranD a c n).length ≤ lim →
      Q (.ref I) { s with heap := h', toks := tk }) : wpAny (model C.prog C.w) C.A (pyIter (.ref r)) Q E s := by
  refine wpAny_pyIter_range hr hs ?_
  rw [hn]
  obtain ⟨a1, a2, a3⟩ := S.fresh_out (size_none s.heap)
  have S2 := S.pushed { cls := .type "range_iterator", data := .fields #[rawInt a, rawInt (n : Int), rawInt c] }
  have W := Walks.range (prog := C.prog) (w := C.w) S.ok.hh s.heap.objs.size a c n
  have e : n = (ranD a c n).length := by simp [ranD]
  have W' : Walks C.prog C.w C.A s.heap.objs.size [s.heap.objs.size] [s.heap.objs.size] (ranD a c n).length (fun i v => ∃ t, v = .int (a + i * c) t) (fun i h => IsRangeIter h s.heap.objs.size (a + (i : Nat) * c) ((n : Int) - (i : Nat)) c) := by rw [← e]; exact W
  refine h _ _ _ _ _ _ _ (.refl _) S2 W' ?_ (fun x hx => ?_) ⟨a1, a2⟩ (fun i v hi hv => ?_) (fun i h hs => ?_) (by rw [← e]; exact hl)
  · show (s.heap.push _).get? _ = _
    rw [Heap.get?_push_size _ rfl]
    simp
  · rw [List.mem_singleton.mp hx]
    exact ⟨by rw [Heap.get?_push_size _ rfl]; rfl, a3⟩
  · obtain ⟨u, rfl⟩ := hv
    refine ⟨.int (a + (i : Int) * c), ?_, .int ..⟩
    rw [← e] at hi
    simp [ranD, hi]
  · exact ⟨_, _, hs, rfl, by decide, _, rfl⟩
end
end Mine
end
section
open PySem PyProof.Rows
set_option linter.unusedVariables false
set_option linter.unusedSimpArgs false
namespace Mine
theorem small_ok {a b c : Int} (ha : a.natAbs < 2 ^ 40) (hb : b.natAbs < 2 ^ 40) (hc : c = 1 ∨ c = 3 ∨ c = -1) : Builtin.Range.small a b c = true := by
  have hz : (Builtin.Range.rangeSize a b c).natAbs < 2 ^ 42 := by
    unfold Builtin.Range.rangeSize
    rcases hc with rfl | rfl | rfl
    · simp only [show (1 : Int) > 0 by decide, if_true, Int.ediv_one]; split <;> omega
    · simp only [show (3 : Int) > 0 by decide, if_true]; split <;> omega
    · simp only [show ¬ (-1 : Int) > 0 by decide, if_false, Int.neg_neg, Int.ediv_one]; split <;> omega
  have hf : ∀ x : Int, x.natAbs < 2 ^ 43 → Builtin.Range.rangeFitsLong x = true := fun x hx => by
    unfold Builtin.Range.rangeFitsLong
    simp only [Bool.and_eq_true, decide_eq_true_eq]; omega
  unfold Builtin.Range.small
  rw [hf a (by omega), hf b (by omega), hf c (by omega), hf _ (by omega)]
  rcases hc with rfl | rfl | rfl
  · simp only [show (1 : Int) > 0 by decide, if_true]; rw [hf _ (by omega)]; simp
  · simp only [show (3 : Int) > 0 by decide, if_true]; rw [hf _ (by omega)]; simp
  · simp only [show ¬ (-1 : Int) > 0 by decide, if_false]; rw [hf _ (by omega)]; simp
section
variable {σ : Type} {C : Cx σ} {ρ ρ' ρ₁ ρ₂ : Ro} {fo fo' : Option (List Dt)} {ds : List Dt} {st st1 st2 st3 : σ} {P : Post σ}
theorem It.range1 {p pos : Pos} {e1 : Expr} {b : Int} (ha : Es C ρ fo st [e1] [.int b] st1) (hb : 0 ≤ b) (hb' : b ≤ 1000000) (hk : C.env.kindOf "range" = some .globalImplicit := by rfl) (hs : noStars [e1] = true := by rfl) :
    It C ρ fo st (.Call (.Name "range" p) [e1] [] pos) (ranD 0 1 b.toNat) st1 :=
  fun B mu K₀ fa K s Q E S h => wpAny_Call_NameR (S.builtName hk (S.ok.bl "range" (.type "range") rfl).1 (S.ok.bl "range" (.type "range") rfl).2 (PyProof.Rows.callWith_type (any_star hs) (evalArgs_ns (any_star hs) (ha pos B mu K₀ fa K s _ E S fun vs h1 tk1 K1 k1 S1 r1 => by
    obtain ⟨v, r, rfl⟩ := r1.one'
    obtain ⟨t, rfl⟩ := r.int_inv
    refine call_range_1 (s := { s with heap := h1, toks := tk1 }) ?_
    have S2 := S1.pushed { cls := .type "range", data := .fields #[.int 0 tk1, .int b t, .int 1 (tk1 + 1)] }
    refine It.ofRange (s := ⟨h1.push { cls := .type "range", data := .fields #[.int 0 tk1, .int b t, .int 1 (tk1 + 1)] }, _, _, _, _⟩) S2 (IsRange.new h1 0 b 1 tk1 t (tk1 + 1)) (small_ok (by decide) (by omega) (Or.inl rfl)) (n := b.toNat) ?_ (by unfold lim; omega) (fun I h' tk K' fp' P Stt k' S' W w0 w1 w2 w3 w4 w5 => h I h' tk K' fp' P Stt (k1.trans k') S' W w0 w1 w2 w3 w4 w5)
    rw [rangeSize_one]
    split <;> omega))) (by decide))
theorem It.range2 {p pos : Pos} {e1 e2 : Expr} {a b : Int} (ha : Es C ρ fo st [e1, e2] [.int a, .int b] st1) (ha' : a.natAbs ≤ 1000000) (hb' : b.natAbs ≤ 1000000) (hk : C.env.kindOf "range" = some .globalImplicit := by rfl) (hs : noStars [e1, e2] = true := by rfl) :
    It C ρ fo st (.Call (.Name "range" p) [e1, e2] [] pos) (ranD a 1 (b - a).toNat) st1 :=
  fun B mu K₀ fa K s Q E S h => wpAny_Call_NameR (S.builtName hk (S.ok.bl "range" (.type "range") rfl).1 (S.ok.bl "range" (.type "range") rfl).2 (PyProof.Rows.callWith_type (any_star hs) (evalArgs_ns (any_star hs) (ha pos B mu K₀ fa K s _ E S fun vs h1 tk1 K1 k1 S1 r1 => by
    obtain ⟨v, r, u, r', rfl⟩ := r1.two
    obtain ⟨t, rfl⟩ := r.int_inv
    obtain ⟨t', rfl⟩ := r'.int_inv
    refine call_range_2 (s := { s with heap := h1, toks := tk1 }) ?_
    have S2 := S1.pushed { cls := .type "range", data := .fields #[.int a t, .int b t', .int 1 tk1] }
    refine It.ofRange (s := ⟨h1.push { cls := .type "range", data := .fields #[.int a t, .int b t', .int 1 tk1] }, _, _, _, _⟩) S2 (IsRange.new h1 a b 1 t t' tk1) (small_ok (by omega) (by omega) (Or.inl rfl)) (n := (b - a).toNat) ?_ (by unfold lim; omega) (fun I h' tk K' fp' P Stt k' S' W w0 w1 w2 w3 w4 w5 => h I h' tk K' fp' P Stt (k1.trans k') S' W w0 w1 w2 w3 w4 w5)
    rw [rangeSize_one]
    split <;> omega))) (by decide))
theorem It.range3 {p pos : Pos} {e1 e2 e3 : Expr} {a b c : Int} {n : Nat} (ha : Es C ρ fo st [e1, e2, e3] [.int a, .int b, .int c] st1) (ha' : a.natAbs ≤ 1000000) (hb' : b.natAbs ≤ 1000000) (hc : c = 1 ∨ c = 3 ∨ c = -1) (hn : Builtin.Range.rangeSize a b c = (n : Int)) (hl : n ≤ 1000000)
    (hk : C.env.kindOf "range" = some .globalImplicit := by rfl) (hs : noStars [e1, e2, e3] = true := by rfl) :
    It C ρ fo st (.Call (.Name "range" p) [e1, e2, e3] [] pos) (ranD a c n) st1 :=
  fun B mu K₀ fa K s Q E S h => wpAny_Call_NameR (S.builtName hk (S.ok.bl "range" (.type "range") rfl).1 (S.ok.bl "range" (.type "range") rfl).2 (PyProof.Rows.callWith_type (any_star hs) (evalArgs_ns (any_star hs) (ha pos B mu K₀ fa K s _ E S fun vs h1 tk1 K1 k1 S1 r1 => by
    cases r1 with
    | cons r r1 =>
    obtain ⟨t, rfl⟩ := r.int_inv
    obtain ⟨v, r, u, r', rfl⟩ := r1.two
    obtain ⟨t1, rfl⟩ := r.int_inv
    obtain ⟨t2, rfl⟩ := r'.int_inv
    refine call_range_3 (s := { s with heap := h1, toks := tk1 }) (by omega) ?_ (Or.inl (PyProof.noPylong_of_log2 (by rcases hc with rfl | rfl | rfl <;> decide)))
    have S2 := S1.pushed { cls := .type "range", data := .fields #[.int a t, .int b t1, .int c t2] }
    exact It.ofRange (s := ⟨h1.push { cls := .type "range", data := .fields #[.int a t, .int b t1, .int c t2] }, _, _, _, _⟩) S2 (IsRange.new h1 a b c t t1 t2) (small_ok (by omega) (by omega) hc) hn (by unfold lim; omega) (fun I h' tk K' fp' P Stt k' S' W w0 w1 w2 w3 w4 w5 => h I h' tk K' fp' P Stt (k1.trans k') S' W w0 w1 w2 w3 w4 w5)))) (by decide))
/-- the base laid anew: where we stand -/
theorem St.rebase {B : Heap} {mu : List Addr} {K₀ : Kn} {fa : Addr} {K : Kn} {h : Heap} (S : St C B mu K₀ fa ρ fo K st h) : St C h (ownL C fa fo) K fa ρ fo K st h where
  ok := S.ok
  base := fun b o e _ _ => e
  ex := fun b hb => hb
  kx := fun a o e => Or.inl e
  kn := S.kn
  top := S.top
  mt := S.mt
  ow := fun a ha => Or.inl ha
  nd := S.nd
  fr := S.fr
  fl := S.fl
  ce := S.ce
  sg := S.sg
/-- back to the elder base -/
theorem St.back {B : Heap} {mu : List Addr} {K₀ : Kn} {fa fa' : Addr} {K K' : Kn} {h h' : Heap} (S : St C B mu K₀ fa ρ fo K st h) (S' : St C h (ownL C fa fo) K fa' ρ' fo' K' st1 h') : St C B mu K₀ fa' ρ' fo' K' st1 h' where
  ok := S'.ok
  base := fun b o e hb hf => S'.base b o (S.base b o e hb hf) (fun hm => by
    rcases S.ow b hm with w | w
    · exact hb w
    · rw [w] at e; cases e) hf
  ex := fun b hb => S'.ex b (S.ex b hb)
  kx := fun a o e => by
    rcases S'.kx a o e with w | w | w
    · exact S.kx a o w
    · right; left
      cases z : B.get? a with
      | none => rfl
      | some x => have := S.ex a (by rw [z]; rfl); rw [w] at this; cases this
    · rcases S.ow a w with z | z
      · exact Or.inr (Or.inr z)
      · exact Or.inr (Or.inl z)
  kn := S'.kn
  top := S'.top
  mt := S'.mt
  ow := fun a ha => by
    rcases S'.ow a ha with w | w
    · exact S.ow a w
    · right
      cases z : B.get? a with
      | none => rfl
      | some x => have := S.ex a (by rw [z]; rfl); rw [w] at this; cases this
  nd := S'.nd
  fr := S'.fr
  fl := S'.fl
  ce := S'.ce
  sg := S'.sg
/-- one item taken -/
theorem St.walked {B : Heap} {mu : List Addr} {K₀ : Kn} {fa I : Addr} {K : Kn} {h h' : Heap} (S : St C B mu K₀ fa ρ fo K st h) (hk : ∀ b o, b ∉ [I] → h.get? b = some o → h'.get? b = some o) (hw : K I = none ∧ B.get? I = none) (hn : I ∉ ownL C fa fo ++ C.fp) (hp : plainIt h I) :
    St C B mu K₀ fa ρ fo K st h' := by
  replace hk : ∀ b o, b ≠ I → h.get? b = some o → h'.get? b = some o := fun b o hb => hk b o (by simpa using hb)
  have off : ∀ b ∈ ownL C fa fo ++ C.fp, b ≠ I := fun b hb hm => hn (hm ▸ hb)
  have ks : ∀ b, b ≠ I → (h.get? b).isSome = true → (h'.get? b).isSome = true := fun b hb hx => by
    obtain ⟨o, ho⟩ := Option.isSome_iff_exists.mp hx
    rw [hk b o hb ho]; rfl
  have ck : ∀ c v, h.IsCell c v → h'.IsCell c v := fun c v i => by
    obtain ⟨o, ho, hd⟩ := i
    refine ⟨o, hk c o (fun z => ?_) ho, hd⟩
    obtain ⟨o', n, ho', _, _, fs, hf⟩ := hp
    rw [z, ho'] at ho; cases ho
    rw [hf] at hd; cases hd
  have hL : C.env.locals ≠ I := off _ (List.mem_append.mpr (.inl St.L_mem))
  obtain ⟨m, hm, hr, hf⟩ := S.fr
  have lk : ∀ x v, Look C m h x v → Look C m h' x v := fun x v l => l.imp id fun ⟨a, c, b, i⟩ => ⟨a, c, b, ck _ _ i⟩
  exact {
    ok := S.ok
    base := fun b o e hb hf' => hk b o (fun z => by rw [z, hw.2] at e; cases e) (S.base b o e hb hf')
    ex := fun b hb => ks b (fun z => by rw [z, hw.2] at hb; cases hb) (S.ex b hb)
    kx := S.kx
    kn := fun a o e => hk a o (fun z => by rw [z, hw.1] at e; cases e) (S.kn a o e)
    top := S.top
    mt := fun a ha => ⟨(S.mt a ha).1, ks a (off a ha) (S.mt a ha).2⟩
    ow := S.ow
    nd := S.nd
    fr := ⟨m, hm.at' fun o e => hk _ o hL e, fun x d e => let ⟨v, l, r⟩ := hr x d e; ⟨v, lk x v l, r⟩, fun ds e => lk _ _ (hf ds e)⟩
    fl := fun ds e => let ⟨vs, n, g, r⟩ := S.fl ds e; ⟨vs, n, hk fa _ (off fa (List.mem_append.mpr (.inl (by subst e; simp [ownL])))) g, r⟩
    ce := fun p hp => let ⟨v, i⟩ := S.ce p hp; ⟨v, ck _ _ i⟩
    sg := S.ok.sgk st _ _ (fun a ha o e => hk a o (off a (List.mem_append.mpr (.inr ha))) e) S.sg }
noncomputable def noSet : Expr → Bool
  | .Call .. => true
  | .Name .. => true
  | .Subscript .. => true
  | _ => false
theorem folded_ok {e : Expr} (h : noSet e = true) (env : Env) (x : Value) : foldedSetIterable e env x = pure x := by
  cases e <;> first | rfl | cases h
/-- what a loop stands on, kept by a turn -/
theorem St.stood {B : Heap} {fa fa' : Addr} {K K' : Kn} {h h' : Heap} {fp' : List Addr} {I : Addr} (S' : St C h (ownL C fa fo) K fa' ρ' fo' K' st1 h') (hfp : ∀ b ∈ fp', (h.get? b).isSome = true ∧ b ∉ ownL C fa fo ++ C.fp) (kI : K I = none) (If : I ∈ fp') :
    (∀ b ∈ fp', ∀ o, h.get? b = some o → h'.get? b = some o) ∧ (∀ b ∈ fp', (h'.get? b).isSome = true ∧ b ∉ ownL C fa' fo' ++ C.fp) ∧ K' I = none := by
  refine ⟨fun b hb o e => S'.base b o e (fun z => (hfp b hb).2 (List.mem_append.mpr (.inl z))) fun z => (hfp b hb).2 (List.mem_append.mpr (.inr z)), fun b hb => ⟨S'.ex b (hfp b hb).1, fun z => ?_⟩, ?_⟩
  · rcases List.mem_append.mp z with z | z
    · rcases S'.ow b z with w | w
      · exact (hfp b hb).2 (List.mem_append.mpr (.inl w))
      · have := (hfp b hb).1; rw [w] at this; cases this
    · exact (hfp b hb).2 (List.mem_append.mpr (.inr z))
  · cases e : K' I with
    | none => rfl
    | some o =>
      rcases S'.kx I o e with w | w | w
      · rw [kI] at w; cases w
      · have := (hfp I If).1; rw [w] at this; cases this
      · exact absurd (List.mem_append.mpr (.inl w)) (hfp I If).2
theorem take_split {α : Type} {ds : List α} {i : Nat} {d : α} (hd : ds[i]? = some d) : ds = ds.take i ++ d :: ds.drop (i + 1) ∧ ds.take (i + 1) = ds.take i ++ [d] := by
  refine ⟨?_, by rw [List.take_add_one, hd]; rfl⟩
  have z := List.take_append_drop i ds
  have z2 : ds.drop i = d :: ds.drop (i + 1) := by
    obtain ⟨hl, he⟩ := List.getElem?_eq_some_iff.mp hd
    rw [← he]; exact List.drop_eq_getElem_cons hl
  rw [z2] at z; exact z.symm
inductive FInv {σ : Type} (C : Cx σ) (B : Heap) (mu : List Addr) (K₀ : Kn) (ds : List Dt) (s : Shared) (K1 : Kn) (I : Addr) (fp' : List Addr) (Stt : Nat → Heap → Prop) (J : List Dt → Ro → Option (List Dt) → σ → Prop) : Nat → Shared → Prop
  | mk (i : Nat) (h' : Heap) (tk : Nat) (fa' : Addr) (ρ' : Ro) (fo' : Option (List Dt)) (st' : σ) (K' : Kn) (hi : i ≤ ds.length) (kk : KLe K1 K') (kI : K' I = none) (S' : St C B mu K₀ fa' ρ' fo' K' st' h') (hst : Stt i h')
      (hfp : ∀ b ∈ fp', (h'.get? b).isSome = true ∧ b ∉ ownL C fa' fo' ++ C.fp) (hJ : J (ds.take i) ρ' fo' st') : FInv C B mu K₀ ds s K1 I fp' Stt J (ds.length + 1 - i) { s with heap := h', toks := tk }
theorem Ex.for {target iter : Expr} {body : List Stmt} {pos : Pos} (hit : It C ρ fo st iter ds st1) (J : List Dt → Ro → Option (List Dt) → σ → Prop) (h0 : J [] ρ fo st1)
    (turn : ∀ pre d post ρ fo st, ds = pre ++ d :: post → J pre ρ fo st → ∃ ρ₁, Bind C fo target d ρ ρ₁ ∧ Exs C ρ₁ fo st body (fun fl ρ' fo' st' => match fl with | .next => J (pre ++ [d]) ρ' fo' st' | .brk => P .next ρ' fo' st' | .ret r => P (.ret r) ρ' fo' st'))
    (done : ∀ ρ fo st, J ds ρ fo st → P .next ρ fo st) (hs : noSet iter = true := by rfl) : Ex C ρ fo st (.For target iter body [] pos) P :=
  fun B mu K₀ fa K s Q E S q => wpAny_For (hit B mu K₀ fa K s _ E S fun I h1 tk1 K1 fp' PP Stt k1 S1 W w0 w1 w2 w3 w4 w5 => by
    refine codeAny_forLoop_any (FInv C B mu K₀ ds s K1 I fp' Stt J) ?_ (ds.length + 1)
      (.mk 0 h1 tk1 fa ρ fo st1 K1 (Nat.zero_le _) (.refl _) w2.1 S1 w0 w1 (by simpa using h0))
    rintro n s' ⟨i, h', tk, fa', ρ', fo', st', K', hi, kk, kI, S', hst, hfp, hJ⟩
    have If : I ∈ fp' := W.sub I (by simp)
    by_cases hlt : i < ds.length
    · refine W.item i { s with heap := h', toks := tk } _ _ hlt hst fun v h2 tk2 hP hst2 hk2 => ?_
      have S2 := S'.walked hk2 ⟨kI, w2.2⟩ (hfp I If).2 (w4 _ _ hst)
      refine letOwned_plain (s := { s with heap := h2, toks := tk2 }) (w4 _ _ hst2) ?_
      obtain ⟨d, hd, rd⟩ := w3 i v hlt hP
      obtain ⟨es, et⟩ := take_split hd
      have fp2 : ∀ b ∈ fp', (h2.get? b).isSome = true ∧ b ∉ ownL C fa' fo' ++ C.fp := fun b hb => by
        refine ⟨?_, (hfp b hb).2⟩
        by_cases e : b = I
        · obtain ⟨o, _, ho, _⟩ := w4 _ _ hst2
          rw [e, ho]; rfl
        · obtain ⟨o, ho⟩ := Option.isSome_iff_exists.mp (hfp b hb).1
          rw [hk2 b o (by simpa using e) ho]; rfl
      obtain ⟨ρ₁, hb, hbody⟩ := turn _ d _ ρ' fo' st' es hJ
      refine hb.go (s := { s with heap := h2, toks := tk2 }) S2.rebase (rd.mono kk) fun h3 tk3 S3 => ?_
      refine hbody h2 (ownL C fa' fo') K' fa' K' { s with heap := h3, toks := tk3 } _ _ S3 fun f h4 tk4 K4 fa4 fl ρ4 fo4 st4 p4 k4 S4 r4 => ?_
      obtain ⟨g1, g2, g3⟩ := S4.stood (B := B) fp2 kI If
      have S5 := S2.back S4
      cases f with
      | next =>
        cases fl with
        | next => exact ⟨ds.length + 1 - (i + 1), by omega, .mk (i + 1) h4 tk4 fa4 ρ4 fo4 st4 K4 hlt (kk.trans k4) g3 S5 (W.frame _ _ _ hst2 g1) g2 (by rw [et]; exact p4)⟩
        | brk => cases r4
        | ret d => cases r4
      | brk =>
        cases fl with
        | next => cases r4
        | brk => exact q .next h4 tk4 K4 fa4 .next ρ4 fo4 st4 p4 ((k1.trans kk).trans k4) S5 trivial
        | ret d => cases r4
      | cont => cases fl <;> cases r4
      | ret v =>
        cases fl with
        | next => cases r4
        | brk => cases r4
        | ret d => exact q (.ret v) h4 tk4 K4 fa4 (.ret d) ρ4 fo4 st4 p4 ((k1.trans kk).trans k4) S5 r4
    · have hin : i = ds.length := by omega
      subst hin
      refine W.done { s with heap := h', toks := tk } _ _ hst fun h2 tk2 hk2 => wpAny_execs_nil ?_
      have S2 := S'.walked hk2 ⟨kI, w2.2⟩ (hfp I If).2 (w4 _ _ hst)
      rw [List.take_length] at hJ
      exact q .next h2 tk2 K' fa' .next ρ' fo' st' (done _ _ _ hJ) (k1.trans kk) S2 trivial)
    (fun x => folded_ok hs _ _)
end
end Mine
end
section
open PySem PyProof.Rows
set_option linter.unusedVariables false
set_option linter.unusedSimpArgs false
namespace Mine
section
variable {prog : Program} {w : World} {A : Around} {E : Value → Shared → Prop} {R : Result → Shared → Prop} {s : Shared}
theorem compLoop_any {elt target iter : Expr} {ifs : List Expr} {scope : Scope} {pos : Pos} {it acc : Value} {env : Env} (I : Nat → Shared → Prop)
    (turn : ∀ n s, I n s → wpAny (model prog w) A (pyNext it) (fun r s₁ => match r with
      | none => R (.ok .next) s₁
      | some v => wpAny (model prog w) A (letOwnedTupleGo target it v) (fun _ s₁' => wpAny (model prog w) A (assign target env v) (fun _ s₂ =>
          wpAny (model prog w) A (forIn ifs true fun c r => if r = true then do let ok ← isTrue c env (eval c env); pure (ForInStep.yield ok) else pure (ForInStep.yield r)) (fun ok s₃ =>
            if ok = true then wpAny (model prog w) A (eval elt env) (fun x s₄ =>
              wpAny (model prog w) A (call (.builtin "list.append") [acc, x]) (fun _ s₅ => ∃ m, m < n ∧ I m s₅) (notedBy (model prog w) A env fun e s' => R (.error e) s') s₄) (notedBy (model prog w) A env fun e s' => R (.error e) s') s₃
            else ∃ m, m < n ∧ I m s₃) (notedBy (model prog w) A env fun e s' => R (.error e) s') s₂) (notedBy (model prog w) A env fun e s' => R (.error e) s') s₁') (notedBy (model prog w) A env fun e s' => R (.error e) s') s₁) (notedBy (model prog w) A env fun e s' => R (.error e) s') s)
    (n : Nat) (h : I n s) :
    codeAny (model prog w) A (.compLoop (.ListComp elt [⟨target, iter, ifs, 0⟩] scope pos) 0 it acc env) R s := by
  refine codeAny_loop rfl I (fun n s hI => ?_) n h
  show wpAny _ A ((compTurn (.ListComp elt [⟨target, iter, ifs, 0⟩] scope pos) 0 it acc env).onRaise (fun x => do noteFrame x env; theTreesLotGoes x)) _ _ s
  refine wpAny_noted ?_
  rw [compTurn_list]
  refine wpAny_bind (wpAny_standAt (wpAny_bind (wpAny_mono (turn n s hI) (fun r s₁ h₁ => ?_) fun _ _ h' => h')))
  cases r with
  | none => exact wpAny_pure h₁
  | some v =>
    refine wpAny_bind (wpAny_mono h₁ (fun _ s₁' h₁' => ?_) fun _ _ h' => h')
    refine wpAny_bind (wpAny_mono h₁' (fun _ s₂ h₂ => wpAny_bind (wpAny_mono h₂ (fun ok s₃ h₃ => ?_) fun _ _ h' => h')) fun _ _ h' => h')
    cases ok with
    | false => exact wpAny_pure ⟨rfl, h₃⟩
    | true =>
      exact wpAny_bind (wpAny_bind (wpAny_mono h₃ (fun x s₄ h₄ => wpAny_bind (wpAny_mono h₄ (fun _ s₅ h₅ => wpAny_pure (wpAny_pure ⟨rfl, h₅⟩)) fun _ _ h' => h')) fun _ _ h' => h'))
end
noncomputable def closL (env : Env) : List (Str × NameKind) → List (Str × Addr) → List (Str × Addr)
  | [], acc => acc
  | (n, k) :: r, acc => if k == .free then closL env r ((n, (env.cells.lookup n).getD 0) :: acc) else closL env r acc
theorem closL_sub {env : Env} : ∀ {names : List (Str × NameKind)} {acc : List (Str × Addr)} (p : Str × Addr), p ∈ acc → p ∈ closL env names acc
  | [], _, _, h => h
  | (n, k) :: r, acc, p, h => by
    unfold closL
    split
    · exact closL_sub p (List.mem_cons_of_mem _ h)
    · exact closL_sub p h
theorem closL_has {env : Env} : ∀ {names : List (Str × NameKind)} {acc : List (Str × Addr)} {n : Str}, (n, NameKind.free) ∈ names → (n, (env.cells.lookup n).getD 0) ∈ closL env names acc
  | (m, k) :: r, acc, n, h => by
    unfold closL
    rcases List.mem_cons.mp h with h | h
    · cases h
      rw [if_pos (by simp)]
      exact closL_sub _ List.mem_cons_self
    · split
      · exact closL_has h
      · exact closL_has h
theorem closL_val {env : Env} : ∀ {names : List (Str × NameKind)} {acc : List (Str × Addr)}, (∀ p ∈ acc, p.2 = (env.cells.lookup p.1).getD 0) → ∀ p ∈ closL env names acc, p.2 = (env.cells.lookup p.1).getD 0
  | [], _, h => h
  | (n, k) :: r, acc, h => by
    unfold closL
    split
    · exact closL_val fun p hp => by
        rcases List.mem_cons.mp hp with rfl | hp
        · rfl
        · exact h p hp
    · exact closL_val h
theorem lookup_of_val {f : Str → Addr} : ∀ {l : List (Str × Addr)} {n : Str}, (∀ p ∈ l, p.2 = f p.1) → (∃ c, (n, c) ∈ l) → l.lookup n = some (f n)
  | [], _, _, ⟨_, h⟩ => nomatch h
  | (m, c) :: r, n, h, ⟨c', hm⟩ => by
    by_cases e : n = m
    · subst e
      rw [List.lookup_cons, beq_self_eq_true]
      have := h (n, c) List.mem_cons_self
      rw [show c = f n from this]
    · have hb : (n == m) = false := by simpa using e
      rw [List.lookup_cons, hb]
      refine lookup_of_val (fun p hp => h p (List.mem_cons_of_mem _ hp)) ⟨c', ?_⟩
      rcases List.mem_cons.mp hm with q | q
      · cases q; exact absurd rfl e
      · exact q
theorem closL_go {env : Env} (f : Str × NameKind → List (Str × Addr) → Sem (ForInStep (List (Str × Addr))))
    (hf : ∀ n k cs, f (n, k) cs = if k == .free then (do let c ← cellOf env n; pure (.yield ((n, c) :: cs))) else pure (.yield cs)) :
    ∀ (names : List (Str × NameKind)) (acc : List (Str × Addr)), (∀ p ∈ names, p.2 = .free → (env.cells.lookup p.1).isSome = true) → forIn names acc f = pure (closL env names acc)
  | [], acc, _ => by rw [List.forIn_nil]; rfl
  | (n, k) :: r, acc, h => by
    rw [List.forIn_cons, hf]
    unfold closL
    have hr : ∀ p ∈ r, p.2 = .free → (env.cells.lookup p.1).isSome = true := fun p hp => h p (List.mem_cons_of_mem _ hp)
    cases hk : k == NameKind.free with
    | false =>
      simp only [Bool.false_eq_true, if_false]
      show (Sem.bind (Sem.pure _) _) = _
      exact closL_go f hf r acc hr
    | true =>
      have hk' : k = .free := by simpa using hk
      obtain ⟨c, hc⟩ := Option.isSome_iff_exists.mp (h (n, k) List.mem_cons_self hk')
      have hc' : env.cells.lookup n = some c := hc
      simp only [if_true]
      unfold cellOf
      rw [hc']
      exact closL_go f hf r _ hr
theorem closureFor_eq {scope : Scope} {env : Env} (h : ∀ p ∈ scope.names, p.2 = .free → (env.cells.lookup p.1).isSome = true) : closureFor scope env = pure (closL env scope.names []) := by
  exact (congrArg (fun t => t >>= fun cs => pure cs) (closL_go (env := env) _ (fun n k cs => by cases k <;> rfl) scope.names [] h)).trans rfl
noncomputable def compOk (env : Env) (scope : Scope) : Bool := scope.kind == .function && scope.names.all fun p => match p.2 with
  | .free => env.kindOf p.1 == some .cell && (env.cells.lookup p.1).isSome
  | .local => scope.names.lookup p.1 == some .local
  | .cell => false
  | _ => true
noncomputable def compRo (scope : Scope) (ρ : Ro) : Ro := scope.names.map fun p => (p.1, if p.2 == .free then ρ.get p.1 else none)
theorem compRo_get {scope : Scope} {ρ : Ro} {x : Str} {d : Dt} (h : (compRo scope ρ).get x = some d) : scope.names.lookup x = some .free ∧ ρ.get x = some d := by
  have key : ∀ (l : List (Str × NameKind)), (l.map fun p => (p.1, if p.2 == NameKind.free then ρ.get p.1 else none)).lookup x = (l.lookup x).map fun k => if k == NameKind.free then ρ.get x else none := by
    intro l
    induction l with
    | nil => rfl
    | cons p r ih =>
      obtain ⟨n, k⟩ := p
      rw [List.map_cons, List.lookup_cons, List.lookup_cons]
      by_cases e : x = n
      · subst e; simp
      · have hb : (x == n) = false := by simpa using e
        simp only [hb]; exact ih
  replace h : (match (compRo scope ρ).lookup x with | some (some d) => some d | _ => none) = some d := h
  rw [show (compRo scope ρ).lookup x = _ from key _] at h
  cases hk : scope.names.lookup x with
  | none => rw [hk] at h; cases h
  | some k =>
    rw [hk] at h
    simp only [Option.map_some] at h
    cases hq : k == NameKind.free with
    | false => rw [hq] at h; cases h
    | true =>
      have hk' : k = .free := by simpa using hq
      rw [hq] at h
      simp only [if_true] at h
      refine ⟨by rw [hk'], ?_⟩
      split at h
      · rename_i d' e
        cases h
        exact Option.some.inj e
      · cases h
theorem relabel_free {env : Env} : ∀ {names : List (Str × NameKind)} {x : Str}, names.lookup x = some .free → env.scope.kind = .function → env.kindOf x = some .cell →
    (names.map fun (n, k) => if (k == NameKind.free && env.scope.kind == .function && env.kindOf n == some .cell) then (n, NameKind.cell) else (n, k)).lookup x = some .cell
  | [], _, h, _, _ => by simp at h
  | (n, k) :: r, x, h, hk, hc => by
    rw [List.map_cons]
    by_cases e : x = n
    · subst e
      rw [List.lookup_cons, beq_self_eq_true] at h
      cases h
      show List.lookup x ((if (NameKind.free == NameKind.free && env.scope.kind == .function && env.kindOf x == some .cell) = true then (x, NameKind.cell) else (x, NameKind.free)) :: _) = _
      rw [if_pos (by rw [hk, hc]; rfl), List.lookup_cons, beq_self_eq_true]
    · have hb : (x == n) = false := by simpa using e
      rw [List.lookup_cons, hb] at h
      have ih := relabel_free h hk hc
      show List.lookup x ((if (k == NameKind.free && env.scope.kind == .function && env.kindOf n == some .cell) = true then (n, NameKind.cell) else (n, k)) :: _) = _
      split
      · rw [List.lookup_cons, hb]; exact ih
      · rw [List.lookup_cons, hb]; exact ih
section
variable {σ : Type}
noncomputable def Cx.comp (C : Cx σ) (scope : Scope) (L' : Addr) : Cx σ := { C with env := compEnvC scope (closL C.env scope.names []) L' C.env, stc := [] }
end
section
variable {σ : Type} {C : Cx σ} {ρ ρ' ρ₁ ρ₂ : Ro} {fo fo' : Option (List Dt)} {ds : List Dt} {st st1 st2 st3 : σ} {P : Post σ} {B : Heap} {mu : List Addr} {K₀ : Kn} {fa : Addr} {K : Kn} {h h' : Heap} {scope : Scope}
theorem closL_mem {env : Env} : ∀ {names : List (Str × NameKind)} {acc : List (Str × Addr)} {p : Str × Addr}, p ∈ closL env names acc → p ∈ acc ∨ ((p.1, NameKind.free) ∈ names ∧ p.2 = (env.cells.lookup p.1).getD 0)
  | [], _, _, h => Or.inl h
  | (n, k) :: r, acc, p, h => by
    unfold closL at h
    split at h
    · rename_i hk
      have hk' : k = .free := by simpa using hk
      rcases closL_mem h with h | ⟨h, e⟩
      · rcases List.mem_cons.mp h with rfl | h
        · exact Or.inr ⟨by rw [hk']; exact List.mem_cons_self, rfl⟩
        · exact Or.inl h
      · exact Or.inr ⟨List.mem_cons_of_mem _ h, e⟩
    · rcases closL_mem h with h | ⟨h, e⟩
      · exact Or.inl h
      · exact Or.inr ⟨List.mem_cons_of_mem _ h, e⟩
theorem Cx.comp_ok (o : C.Ok) (hc : compOk C.env scope = true) (L' : Addr) : (C.comp scope L').Ok where
  hh := o.hh
  room := o.room
  bl := o.bl
  kind := by
    unfold compOk at hc
    rw [Bool.and_eq_true] at hc
    show scope.kind = _
    exact by simpa using hc.1
  glob := o.glob
  bui := o.bui
  g := o.g
  b := o.b
  sgk := o.sgk
  cl := fun p hp => nomatch hp
  ci := fun p hp => nomatch hp
  cf := fun x c hx => by
    have hm : (x, c) ∈ closL C.env scope.names [] := mem_of_lookup hx
    rcases closL_mem hm with h | ⟨h, e⟩
    · cases h
    · have hc' := hc
      unfold compOk at hc'
      rw [Bool.and_eq_true, List.all_eq_true] at hc'
      have := hc'.2 _ h
      simp only [Bool.and_eq_true] at this
      obtain ⟨c', hc''⟩ := Option.isSome_iff_exists.mp this.2
      refine o.cf x c ?_
      have e' : c = (C.env.cells.lookup x).getD 0 := e
      rw [e', hc'']; rfl
theorem compOk_free (hc : compOk C.env scope = true) {x : Str} (hx : scope.names.lookup x = some .free) : C.env.kindOf x = some .cell ∧ (C.env.cells.lookup x).isSome = true := by
  unfold compOk at hc
  rw [Bool.and_eq_true, List.all_eq_true] at hc
  have := hc.2 (x, .free) (mem_of_lookup hx)
  simpa using this
theorem compOk_clos (hc : compOk C.env scope = true) : closureFor scope C.env = pure (closL C.env scope.names []) := closureFor_eq fun p hp hk => by
  unfold compOk at hc
  rw [Bool.and_eq_true, List.all_eq_true] at hc
  have := hc.2 p hp
  obtain ⟨n, k⟩ := p
  cases hk
  simp only [Bool.and_eq_true] at this
  exact this.2
/-- the comprehension's own frame, at the start of a turn -/
theorem St.enter (S : St C B mu K₀ fa ρ fo K st h) (hc : compOk C.env scope = true) {L' : Addr} {m' : Str → Option Value} (hm' : h.Ns L' m') (kL : K L' = none) (hn : L' ∉ C.fp) :
    St (C.comp scope L') h [L'] K 0 (compRo scope ρ) none K st h where
  ok := Cx.comp_ok S.ok hc L'
  base := fun b o e _ _ => e
  ex := fun b hb => hb
  kx := fun a o e => Or.inl e
  kn := S.kn
  top := S.top
  mt := fun a ha => by
    have e : ownL (C.comp scope L') 0 none = [L'] := by simp [ownL, Cx.comp, compEnvC]
    rw [e] at ha
    rcases List.mem_append.mp ha with ha | ha
    · rw [List.mem_singleton.mp ha]
      obtain ⟨o, _, _, ho, _⟩ := hm'
      exact ⟨kL, by rw [ho]; rfl⟩
    · exact S.mt a (List.mem_append.mpr (.inr ha))
  ow := fun a ha => by
    have e : ownL (C.comp scope L') 0 none = [L'] := by simp [ownL, Cx.comp, compEnvC]
    rw [e] at ha; exact Or.inl ha
  nd := by
    have e : ownL (C.comp scope L') 0 none = [L'] := by simp [ownL, Cx.comp, compEnvC]
    have nd := S.nd
    rw [List.nodup_append] at nd
    rw [e]
    exact List.nodup_cons.mpr ⟨hn, nd.2.1⟩
  fr := ⟨m', hm', fun x d e => by
    obtain ⟨h1, h2⟩ := compRo_get e
    obtain ⟨h3, h4⟩ := compOk_free hc h1
    obtain ⟨m, hm, hr, _⟩ := S.fr
    obtain ⟨v, l, r⟩ := hr x d h2
    refine ⟨v, ?_, r⟩
    rcases l with ⟨q, _⟩ | ⟨_, c, q, i⟩
    · rw [h3] at q; cases q
    · refine Or.inr ⟨Or.inl (relabel_free h1 S.ok.kind h3), c, ?_, i⟩
      show (closL C.env scope.names []).lookup x = some c
      rw [lookup_of_val (f := fun n => (C.env.cells.lookup n).getD 0) (closL_val (acc := []) (fun p hp => by cases hp)) ⟨_, closL_has (mem_of_lookup h1)⟩, q]; rfl,
    fun _ e => by cases e⟩
  fl := fun _ e => by cases e
  ce := fun p hp => nomatch hp
  sg := S.sg
theorem Look.imp_cell {m : Str → Option Value} {x : Str} {v : Value} {h h' : Heap} (k : ∀ {x : Str} (c : Addr), C.env.cells.lookup x = some c → ∀ v, h.IsCell c v → h'.IsCell c v) (l : Look C m h x v) : Look C m h' x v := by
  rcases l with l | ⟨a, c, b, i⟩
  · exact Or.inl l
  · exact Or.inr ⟨a, c, b, k c b _ i⟩
/-- what the turn did, seen from the frame around -/
theorem St.across {L' fa' : Addr} {K' : Kn} {ρc : Ro} {m' : Str → Option Value} (S : St C B mu K₀ fa ρ fo K st h) (hfull : ∀ x c, C.env.cells.lookup x = some c → (x, c) ∈ C.stc) (hm' : h.Ns L' m') (hB : B.get? L' = none) (hn : L' ∉ ownL C fa fo ++ C.fp)
    (le : KLe K K') (S' : St (C.comp scope L') h [L'] K fa' ρc none K' st1 h') : St C B mu K₀ fa ρ fo K' st1 h' := by
  have kp : ∀ b o, h.get? b = some o → b ≠ L' → b ∉ C.fp → h'.get? b = some o := fun b o e hb hf => S'.base b o e (by simpa using hb) hf
  have own_fp : ∀ a ∈ ownL C fa fo, a ∉ C.fp := fun a ha hf => by
    have nd := S.nd
    rw [List.nodup_append] at nd
    exact nd.2.2 a ha a hf rfl
  have ofown : ∀ a ∈ ownL C fa fo, ∀ o, h.get? a = some o → h'.get? a = some o := fun a ha o e => kp a o e (fun z => hn (List.mem_append.mpr (.inl (z ▸ ha)))) (own_fp a ha)
  have kL' : K' L' = none := (S'.mt L' (List.mem_append.mpr (.inl (by simp [ownL, Cx.comp, compEnvC])))).1
  have ofcell : ∀ a ∈ ownL C fa fo, ∀ v, h.IsCell a v → h'.IsCell a v := fun a ha v i => by
    obtain ⟨o, ho, hd⟩ := i
    exact ⟨o, ofown a ha o ho, hd⟩
  obtain ⟨m, hm, hr, hf⟩ := S.fr
  have cown : ∀ {x c}, C.env.cells.lookup x = some c → c ∈ ownL C fa fo := fun {x c} e => List.mem_cons_of_mem _ (List.mem_append.mpr (.inl (List.mem_map.mpr ⟨_, hfull x c e, rfl⟩)))
  exact {
    ok := S.ok
    base := fun b o e hb hf' => kp b o (S.base b o e hb hf') (fun z => by rw [z, hB] at e; cases e) hf'
    ex := fun b hb => S'.ex b (S.ex b hb)
    kx := fun a o e => by
      rcases S'.kx a o e with w | w | w
      · exact S.kx a o w
      · right; left
        cases z : B.get? a with
        | none => rfl
        | some x => have := S.ex a (by rw [z]; rfl); rw [w] at this; cases this
      · rw [List.mem_singleton.mp w, kL'] at e; cases e
    kn := S'.kn
    top := S'.top
    mt := fun a ha => ⟨by
        cases e : K' a with
        | none => rfl
        | some o =>
          rcases S'.kx a o e with w | w | w
          · have := (S.mt a ha).1; rw [w] at this; cases this
          · have := (S.mt a ha).2; rw [w] at this; cases this
          · rw [List.mem_singleton.mp w] at ha; exact absurd ha hn, S'.ex a (S.mt a ha).2⟩
    ow := S.ow
    nd := S.nd
    fr := ⟨m, hm.at' fun o e => ofown _ St.L_mem o e, fun x d e => by
        obtain ⟨v, l, r⟩ := hr x d e
        exact ⟨v, Look.imp_cell (fun c hc v i => ofcell c (cown hc) v i) l, r.mono le⟩,
      fun ds e => Look.imp_cell (fun c hc v i => ofcell c (cown hc) v i) (hf ds e)⟩
    fl := fun ds e => let ⟨vs, n, g, hl, r⟩ := S.fl ds e; ⟨vs, n, ofown fa (by subst e; simp [ownL]) _ g, hl, r.mono le⟩
    ce := fun p hp => let ⟨v, i⟩ := S.ce p hp; ⟨v, ofcell p.2 (List.mem_cons_of_mem _ (List.mem_append.mpr (.inl (List.mem_map.mpr ⟨_, hp, rfl⟩)))) v i⟩
    sg := S'.sg }
end
end Mine
end
section
open PySem PyProof.Rows
set_option linter.unusedVariables false
set_option linter.unusedSimpArgs false
namespace Mine
section
variable {σ : Type} {C : Cx σ} {ρ ρ' ρ₁ ρ₂ : Ro} {fo fo' : Option (List Dt)} {ds es : List Dt} {st st1 st2 st3 : σ} {P : Post σ} {B : Heap} {mu : List Addr} {K₀ : Kn} {fa : Addr} {K : Kn} {h h' : Heap} {scope : Scope}
/-- one outer object changed -/
theorem St.off {a : Addr} (S : St C B mu K₀ fa ρ fo K st h) (hk : ∀ b o, b ≠ a → h.get? b = some o → h'.get? b = some o) (hw : K a = none ∧ B.get? a = none) (hn : a ∉ ownL C fa fo ++ C.fp) (hc : ∀ v, ¬ h.IsCell a v) :
    St C B mu K₀ fa ρ fo K st h' := by
  have off : ∀ b ∈ ownL C fa fo ++ C.fp, b ≠ a := fun b hb hm => hn (hm ▸ hb)
  have ks : ∀ b, b ≠ a → (h.get? b).isSome = true → (h'.get? b).isSome = true := fun b hb hx => by
    obtain ⟨o, ho⟩ := Option.isSome_iff_exists.mp hx
    rw [hk b o hb ho]; rfl
  have ck : ∀ c v, h.IsCell c v → h'.IsCell c v := fun c v i => by
    have i' := i
    obtain ⟨o, ho, hd⟩ := i
    exact ⟨o, hk c o (fun z => hc v (z ▸ i')) ho, hd⟩
  have hL : C.env.locals ≠ a := off _ (List.mem_append.mpr (.inl St.L_mem))
  obtain ⟨m, hm, hr, hf⟩ := S.fr
  have lk : ∀ x v, Look C m h x v → Look C m h' x v := fun x v l => l.imp id fun ⟨a, c, b, i⟩ => ⟨a, c, b, ck _ _ i⟩
  exact {
    ok := S.ok
    base := fun b o e hb hf' => hk b o (fun z => by rw [z, hw.2] at e; cases e) (S.base b o e hb hf')
    ex := fun b hb => ks b (fun z => by rw [z, hw.2] at hb; cases hb) (S.ex b hb)
    kx := S.kx
    kn := fun b o e => hk b o (fun z => by rw [z, hw.1] at e; cases e) (S.kn b o e)
    top := S.top
    mt := fun b ha => ⟨(S.mt b ha).1, ks b (off b ha) (S.mt b ha).2⟩
    ow := S.ow
    nd := S.nd
    fr := ⟨m, hm.at' fun o e => hk _ o hL e, fun x d e => let ⟨v, l, r⟩ := hr x d e; ⟨v, lk x v l, r⟩, fun ds e => lk _ _ (hf ds e)⟩
    fl := fun ds e => let ⟨vs, n, g, r⟩ := S.fl ds e; ⟨vs, n, hk fa _ (off fa (List.mem_append.mpr (.inl (by subst e; simp [ownL])))) g, r⟩
    ce := fun p hp => let ⟨v, i⟩ := S.ce p hp; ⟨v, ck _ _ i⟩
    sg := S.ok.sgk st _ _ (fun b ha o e => hk b o (off b (List.mem_append.mpr (.inr ha))) e) S.sg }
/-- an outer object frozen -/
theorem St.know {a : Addr} {o : Obj} (S : St C B mu K₀ fa ρ fo K st h) (ho : h.get? a = some o) (hw : K a = none ∧ B.get? a = none) (hn : a ∉ ownL C fa fo ++ C.fp) : KLe K (kadd K a o) ∧ St C B mu K₀ fa ρ fo (kadd K a o) st h := by
  have le : KLe K (kadd K a o) := fun b o' e => by
    unfold kadd
    rw [if_neg (fun q => by rw [q, hw.1] at e; cases e)]; exact e
  have ne : ∀ b ∈ ownL C fa fo ++ C.fp, b ≠ a := fun b hb q => hn (q ▸ hb)
  refine ⟨le, ?_⟩
  obtain ⟨m, hm, hr, hf⟩ := S.fr
  exact {
    ok := S.ok
    base := S.base
    ex := S.ex
    kx := fun b o' e => by
      unfold kadd at e
      by_cases q : b = a
      · right; left; rw [q]; exact hw.2
      · rw [if_neg q] at e; exact S.kx b o' e
    kn := fun b o' e => by
      unfold kadd at e
      by_cases q : b = a
      · rw [if_pos q] at e; cases e; rw [q]; exact ho
      · rw [if_neg q] at e; exact S.kn b o' e
    top := fun b o' e => le b o' (S.top b o' e)
    mt := fun b hb => ⟨by unfold kadd; rw [if_neg (ne b hb)]; exact (S.mt b hb).1, (S.mt b hb).2⟩
    ow := S.ow
    nd := S.nd
    fr := ⟨m, hm, fun x d e => let ⟨v, l, r⟩ := hr x d e; ⟨v, l, r.mono le⟩, hf⟩
    fl := fun ds e => let ⟨vs, n, q, z, r⟩ := S.fl ds e; ⟨vs, n, q, z, r.mono le⟩
    ce := S.ce
    sg := S.sg }
noncomputable def Tif (C : Cx σ) (ρ : Ro) (st : σ) (ifs : List Expr) (b : Bool) (st' : σ) : Prop :=
  Tb C ρ none st (forIn ifs true fun c r => if r = true then do let ok ← isTrue c C.env (eval c C.env); pure (ForInStep.yield ok) else pure (ForInStep.yield r)) b st'
theorem Tif.nil : Tif C ρ st [] true st := fun B mu K₀ fa K s Q E S h => by
  rw [List.forIn_nil]
  exact wpAny_pure (h s.heap s.toks K (.refl _) S)
theorem Tif.one {c : Expr} {b : Bool} (hc : Tst C ρ none st c b st1) : Tif C ρ st [c] b st1 := fun B mu K₀ fa K s Q E S h => by
  rw [List.forIn_cons]
  simp only [if_true]
  refine wpAny_bind (wpAny_bind (hc B mu K₀ fa K s _ E S fun h1 tk1 K1 k1 S1 => wpAny_pure ?_))
  show wpAny _ _ (forIn [] b _) Q E _
  rw [List.forIn_nil]
  exact wpAny_pure (h h1 tk1 K1 k1 S1)
/-- one turn of a comprehension -/
noncomputable def Cb (C : Cx σ) (ρ : Ro) (scope : Scope) (target : Expr) (ifs : List Expr) (elt : Expr) (d : Dt) (o : Option Dt) (st st' : σ) : Prop :=
  ∀ L', ∃ ρ₁, Bind (C.comp scope L') none target d (compRo scope ρ) ρ₁ ∧ match o with
    | none => Tif (C.comp scope L') ρ₁ st ifs false st'
    | some e => ∃ st1, Tif (C.comp scope L') ρ₁ st ifs true st1 ∧ Ev (C.comp scope L') ρ₁ none st1 elt e st'
inductive Cmp (step : Dt → Option Dt → σ → σ → Prop) : List Dt → σ → List Dt → σ → Prop
  | nil {st : σ} : Cmp step [] st [] st
  | drop {d : Dt} {r es : List Dt} {st st1 st2 : σ} : step d none st st1 → Cmp step r st1 es st2 → Cmp step (d :: r) st es st2
  | keep {d e : Dt} {r es : List Dt} {st st1 st2 : σ} : step d (some e) st st1 → Cmp step r st1 es st2 → Cmp step (d :: r) st (e :: es) st2
theorem Cmp.len {step : Dt → Option Dt → σ → σ → Prop} (h : Cmp step ds st es st2) : es.length ≤ ds.length := by
  induction h with
  | nil => exact Nat.le_refl _
  | drop _ _ ih => exact Nat.le_succ_of_le ih
  | keep _ _ ih => exact Nat.succ_le_succ ih
theorem compOk_cell (hc : compOk C.env scope = true) : ∀ y ∈ scope.names, y.2 ≠ .cell := fun y hy hk => by
  unfold compOk at hc
  rw [Bool.and_eq_true, List.all_eq_true] at hc
  have := hc.2 y hy
  obtain ⟨n, k⟩ := y
  cases hk
  simp at this
theorem compOk_local (hc : compOk C.env scope = true) : ∀ y ∈ scope.names, y.2 = .local → scope.names.lookup y.1 = some .local := fun y hy hk => by
  unfold compOk at hc
  rw [Bool.and_eq_true, List.all_eq_true] at hc
  have := hc.2 y hy
  obtain ⟨n, k⟩ := y
  cases hk
  simpa using this
theorem compOk_kind (hc : compOk C.env scope = true) : scope.kind = .function := by
  unfold compOk at hc
  rw [Bool.and_eq_true] at hc
  simpa using hc.1
inductive CInv {σ : Type} (C : Cx σ) (step : Dt → Option Dt → σ → σ → Prop) (B : Heap) (mu : List Addr) (K₀ : Kn) (fa : Addr) (ρ : Ro) (fo : Option (List Dt)) (ds es : List Dt) (st2 : σ) (s : Shared) (K1 : Kn) (I D L' : Addr) (fp' : List Addr) (Stt : Nat → Heap → Prop) : Nat → Shared → Prop
  | mk (i : Nat) (h' : Heap) (tk : Nat) (K' : Kn) (st' : σ) (vs : List Value) (k : Nat) (m' : Str → Option Value) (done rest : List Dt) (hi : i ≤ ds.length) (kk : KLe K1 K') (kI : K' I = none) (S' : St C B mu K₀ fa ρ fo K' st' h') (hst : Stt i h') (hfp : ∀ b ∈ fp', (h'.get? b).isSome = true)
      (hD : h'.get? D = some (lobj vs k)) (kD : K' D = none) (hm : h'.Ns L' m') (kL : K' L' = none) (rd : Rds C.hv K' vs done) (hes : es = done ++ rest) (hc : Cmp step (ds.drop i) st' rest st2) : CInv C step B mu K₀ fa ρ fo ds es st2 s K1 I D L' fp' Stt (ds.length + 1 - i) { s with heap := h', toks := tk }
theorem comp_core {elt target iter : Expr} {ifs : List Expr} {pos : Pos} (hit : It C ρ fo st iter ds st1) (hcm : Cmp (Cb C ρ scope target ifs elt) ds st1 es st2) (hc : compOk C.env scope = true)
    (hfull : ∀ x c, C.env.cells.lookup x = some c → (x, c) ∈ C.stc) {s : Shared} {E : Value → Shared → Prop} {RR : Value → Addr → Result → Shared → Prop} (S : St C B mu K₀ fa ρ fo K st s.heap)
    (hRR : ∀ D L' h' tk K' m', KLe K K' → St C B mu K₀ fa ρ fo K' st2 h' → Rd C.hv K' (.ref D) (.lst es) → h'.Ns L' m' → (K' L' = none ∧ B.get? L' = none) → L' ∉ ownL C fa fo ++ C.fp → RR (.ref D) L' (.ok .next) { s with heap := h', toks := tk }) :
    wpAny (model C.prog C.w) C.A (eval iter C.env) (fun xv s₁ => wpAny (model C.prog C.w) C.A (pyIter xv) (fun it s₂ => wpAny (model C.prog C.w) C.A (newList []) (fun acc s₃ =>
      wpAny (model C.prog C.w) C.A (newFunctionEnv scope C.env.globals (closL C.env scope.names []) [] C.env.qual none .none (some C.env)) (fun cenv s₄ =>
        codeAny (model C.prog C.w) C.A (.compStart (.ListComp elt [⟨target, iter, ifs, 0⟩] scope pos) 0 it acc { cenv with scope := relabel scope C.env }) (RR acc cenv.locals) s₄) E s₃) E s₂) E s₁) E s := by
  refine hit B mu K₀ fa K s _ E S fun I h1 tk1 K1 fp' PP Stt k1 S1 W w0 w1 w2 w3 w4 w5 => ?_
  refine wpAny_newObj_type (wpAny_newFunctionEnv (compOk_cell hc) (by intro y hy; simp at hy) (fun hB hns hsb => ?_) (compOk_kind hc))
  dsimp only at hns hsb ⊢
  generalize hD : h1.objs.size = D at hns hsb ⊢
  have hDn : h1.get? D = none := hD ▸ size_none h1
  generalize hH : h1.push { cls := .type "list", dict := none, data := .seq ([] : List Value).toArray } = H at hns hsb ⊢
  generalize hL : H.objs.size = L' at hns hsb ⊢
  have hLn : H.get? L' = none := hL ▸ size_none H
  have hHD : H.get? D = some (lobj [] 0) := by rw [← hH, ← hD]; exact Heap.get?_push_size _ rfl
  have SH : St C B mu K₀ fa ρ fo K1 st1 H := hH ▸ S1.pushed _
  have upH : ∀ b o, h1.get? b = some o → H.get? b = some o := fun b o e => hH ▸ Heap.get?_push_of_some _ e
  have upB : ∀ b o, H.get? b = some o → hB.get? b = some o := fun b o e => hsb.extBut b o (fun z => by rw [z, hLn] at e; cases e) (Heap.get?_push_of_some _ e)
  have SB : St C B mu K₀ fa ρ fo K1 st1 hB := SH.keeps upB
  obtain ⟨d1, d2, d3⟩ := S1.fresh_out hDn
  obtain ⟨l1, l2, l3⟩ := SH.fresh_out hLn
  have hDL : D ≠ L' := fun z => by rw [z, hLn] at hHD; cases hHD
  have fpH : ∀ b ∈ fp', b ≠ D ∧ b ≠ L' := fun b hb => by
    have x := (w1 b hb).1
    refine ⟨fun z => (by rw [z, hDn] at x; cases x), fun z => ?_⟩
    obtain ⟨o, ho⟩ := Option.isSome_iff_exists.mp x
    have := upH b o ho
    rw [z, hLn] at this; cases this
  have If : I ∈ fp' := W.sub I (by simp)
  have hst : Stt 0 hB := W.frame _ _ _ w0 fun b hb o e => upB _ _ (upH _ _ e)
  have loop : codeAny (model C.prog C.w) C.A (.compLoop (.ListComp elt [⟨target, iter, ifs, 0⟩] scope pos) 0 (.ref I) (.ref D) (compEnvC scope (closL C.env scope.names []) L' C.env)) (RR (.ref D) L') { s with heap := hB, toks := tk1 + ([] : List (Str × Value)).length } := by
    refine compLoop_any (CInv C (Cb C ρ scope target ifs elt) B mu K₀ fa ρ fo ds es st2 s K1 I D L' fp' Stt) ?_ (ds.length + 1)
      (.mk 0 hB _ K1 st1 [] 0 _ [] es (Nat.zero_le _) (.refl _) w2.1 SB hst (fun b hb => by
        obtain ⟨o, ho⟩ := Option.isSome_iff_exists.mp (w1 b hb).1
        rw [upB _ _ (upH _ _ ho)]; rfl) (upB _ _ hHD) d1 hns l1 .nil rfl (by simpa using hcm))
    rintro n s' ⟨i, h', tk, K', st', vs, k, m', done, rest, hi, kk, kI, S', hst', hfp, hDh, kD, hm', kL, rdone, hes, hcm'⟩
    by_cases hlt : i < ds.length
    · refine W.item i { s with heap := h', toks := tk } _ _ hlt hst' fun v h2 tk2 hP hst2 hk2 => ?_
      have S2 := S'.walked hk2 ⟨kI, w2.2⟩ (w1 I If).2 (w4 _ _ hst')
      refine letOwned_plain (s := { s with heap := h2, toks := tk2 }) (w4 _ _ hst2) ?_
      obtain ⟨d, hd, rd⟩ := w3 i v hlt hP
      have edrop : ds.drop i = d :: ds.drop (i + 1) := by
        obtain ⟨hl, he⟩ := List.getElem?_eq_some_iff.mp hd
        rw [← he]; exact List.drop_eq_getElem_cons hl
      rw [edrop] at hcm'
      have fp2 : ∀ b ∈ fp', (h2.get? b).isSome = true := fun b hb => by
        by_cases e : b = I
        · obtain ⟨o, _, ho, _⟩ := w4 _ _ hst2
          rw [e, ho]; rfl
        · obtain ⟨o, ho⟩ := Option.isSome_iff_exists.mp (hfp b hb)
          rw [hk2 b o (by simpa using e) ho]; rfl
      have hDI : D ≠ I := fun z => (fpH I If).1 z.symm
      have hLI : L' ≠ I := fun z => (fpH I If).2 z.symm
      have hD2 : h2.get? D = some (lobj vs k) := hk2 D _ (by simpa using hDI) hDh
      have hm2 : h2.Ns L' m' := hm'.at' fun o e => hk2 _ o (by simpa using hLI) e
      have Lfp : L' ∉ C.fp := fun z => l3 (List.mem_append.mpr (.inr z))
      have Dfp : D ∉ C.fp := fun z => d3 (List.mem_append.mpr (.inr z))
      have SC := S2.enter (scope := scope) hc hm2 kL Lfp
      -- what a turn in the inner frame keeps
      have kept : ∀ {fa' K4 ρ4 st4 h4}, St (C.comp scope L') h2 [L'] K' fa' ρ4 none K4 st4 h4 → (∀ b ∈ fp', ∀ o, h2.get? b = some o → h4.get? b = some o) ∧ h4.get? D = some (lobj vs k) ∧ K4 I = none ∧ K4 D = none ∧ K4 L' = none ∧ ∃ m4, h4.Ns L' m4 := fun {fa' K4 ρ4 st4 h4} S4 => by
        have kn : ∀ a, (h2.get? a).isSome = true → a ≠ L' → K' a = none → K4 a = none := fun a ha hne hk => by
          cases e : K4 a with
          | none => rfl
          | some o =>
            rcases S4.kx a o e with w | w | w
            · rw [hk] at w; cases w
            · rw [w] at ha; cases ha
            · exact absurd (List.mem_singleton.mp w) hne
        refine ⟨fun b hb o e => S4.base b o e (by simpa using (fpH b hb).2) fun z => (w1 b hb).2 (List.mem_append.mpr (.inr z)), S4.base D _ hD2 (by simpa using hDL) Dfp, kn I (fp2 I If) hLI.symm kI, kn D (by rw [hD2]; rfl) hDL kD,
          (S4.mt L' (List.mem_append.mpr (.inl (by simp [ownL, Cx.comp, compEnvC])))).1, ?_⟩
        obtain ⟨m4, hm4, _⟩ := S4.fr
        exact ⟨m4, hm4⟩
      have some4 : ∀ {h4 : Heap}, (∀ b ∈ fp', ∀ o, h2.get? b = some o → h4.get? b = some o) → ∀ b ∈ fp', (h4.get? b).isSome = true := fun {h4} hk b hb => by
        obtain ⟨o, ho⟩ := Option.isSome_iff_exists.mp (fp2 b hb)
        rw [hk b hb o ho]; rfl
      cases hcm' with
      | drop hstep hrest =>
        obtain ⟨ρ₁, hb, hif⟩ := hstep L'
        refine hb.go (C := C.comp scope L') (s := { s with heap := h2, toks := tk2 }) SC (rd.mono kk) fun h3 tk3 S3 => ?_
        refine hif h2 [L'] K' _ K' { s with heap := h3, toks := tk3 } _ _ S3 fun h4 tk4 K4 k4 S4 => ?_
        rw [if_neg (by simp)]
        obtain ⟨g1, g2, g3, g4, g5, m4, g6⟩ := kept S4
        have S5 := S2.across hfull hm2 l2 l3 k4 S4
        exact ⟨ds.length + 1 - (i + 1), by omega, .mk (i + 1) h4 tk4 K4 _ vs k m4 done rest hlt (kk.trans k4) g3 S5 (W.frame _ _ _ hst2 g1) (some4 g1) g2 g4 g6 g5 (rdone.mono k4) hes hrest⟩
      | @keep _ e _ es' _ stm _ hstep hrest =>
        obtain ⟨ρ₁, hb, stq, hif, helt⟩ := hstep L'
        refine hb.go (C := C.comp scope L') (s := { s with heap := h2, toks := tk2 }) SC (rd.mono kk) fun h3 tk3 S3 => ?_
        refine hif h2 [L'] K' _ K' { s with heap := h3, toks := tk3 } _ _ S3 fun h4 tk4 K4 k4 S4 => ?_
        rw [if_pos rfl]
        refine helt h2 [L'] K' _ K4 { s with heap := h4, toks := tk4 } _ _ S4 fun x h5 tk5 K5 k5 S5 r5 => ?_
        obtain ⟨g1, g2, g3, g4, g5, m4, g6⟩ := kept S5
        have S6 := S2.across hfull hm2 l2 l3 (k4.trans k5) S5
        have hlen : done.length ≤ lim := by
          have a1 := hcm.len
          rw [hes, List.length_append] at a1
          omega
        refine append_exact (s := { s with heap := h5, toks := tk5 }) g2 (by rw [rdone.length]; exact hlen) fun h6 g7 hs6 => ?_
        have S7 := S6.off (h' := h6) (a := D) (fun b o hb e => hs6.extBut b o hb e) ⟨g4, d2⟩ d3 (fun v i => by obtain ⟨o, ho, hd⟩ := i; rw [g2] at ho; cases ho; cases hd)
        have g1' : ∀ b ∈ fp', ∀ o, h2.get? b = some o → h6.get? b = some o := fun b hb o e => hs6.extBut b o (fpH b hb).1 (g1 b hb o e)
        exact ⟨ds.length + 1 - (i + 1), by omega, .mk (i + 1) h6 tk5 K5 _ (vs ++ [x]) (k + 1) m4 (done ++ [e]) es' hlt ((kk.trans k4).trans k5) g3 S7 (W.frame _ _ _ hst2 g1') (some4 g1') g7 g4 (g6.sameBut hs6 hDL.symm) g5 ((rdone.mono (k4.trans k5)).append (.one r5)) (by rw [hes]; simp) hrest⟩
    · have hin : i = ds.length := by omega
      subst hin
      rw [List.drop_length] at hcm'
      generalize hst0 : st' = st0 at hcm'
      cases hcm'
      subst hst0
      refine W.done { s with heap := h', toks := tk } _ _ hst' fun h2 tk2 hk2 => ?_
      have S2 := S'.walked hk2 ⟨kI, w2.2⟩ (w1 I If).2 (w4 _ _ hst')
      have hDI : D ≠ I := fun z => (fpH I If).1 z.symm
      have hLI : L' ≠ I := fun z => (fpH I If).2 z.symm
      have hD2 : h2.get? D = some (lobj vs k) := hk2 D _ (by simpa using hDI) hDh
      obtain ⟨le, S3⟩ := S2.know hD2 ⟨kD, d2⟩ d3
      rw [List.append_nil] at hes
      refine hRR D L' h2 tk2 _ m' ((k1.trans kk).trans le) S3 (.lst (kadd_self ..) rfl rfl ?_ (hes ▸ rdone.mono le)) (hm'.at' fun o e => hk2 _ o (by simpa using hLI) e) ⟨?_, l2⟩ l3
      · exact Nat.le_trans hcm.len w5
      · unfold kadd
        rw [if_neg (Ne.symm hDL)]; exact kL
  exact codeAny_compStart_list loop (W.self 0 _ _ _ hst loop)
theorem Ev.comp {elt target iter : Expr} {ifs : List Expr} {pos : Pos} (hit : It C ρ fo st iter ds st1) (hcm : Cmp (Cb C ρ scope target ifs elt) ds st1 es st2) (hfull : ∀ x c, C.env.cells.lookup x = some c → (x, c) ∈ C.stc)
    (hc : compOk C.env scope = true := by rfl) (hs : noSet iter = true := by rfl) : Ev C ρ fo st (.ListComp elt [⟨target, iter, ifs, 0⟩] scope pos) (.lst es) st2 :=
  fun B mu K₀ fa K s Q E S q => by
    show wpAny _ _ (eval (.ListComp elt [⟨target, iter, ifs, 0⟩] scope pos) C.env) Q E s
    rw [eval_ListComp]
    refine wpAny_comprehension_free (use := none) rfl (fun x => folded_ok hs _ _) (compOk_clos hc) (compOk_kind hc) (compOk_local hc)
      (comp_core (RR := fun acc L' => compPost (model C.prog C.w) C.A E none Q acc L') hit hcm hc hfull S fun D L' h' tk K' m' k S' r hm' hw hn => ?_)
    refine ⟨m', hm', fun h'' hs'' => q (.ref D) h'' tk K' k (S'.off (a := L') (fun b o hb e => hs''.extBut b o hb e) hw hn fun v i => ?_) r⟩
    exact cell_ne hm' i rfl
theorem Ex.assignComp {elt target iter : Expr} {ifs : List Expr} {cpos pos py : Pos} {y : Str} (hit : It C ρ fo st iter ds st1) (hcm : Cmp (Cb C ρ scope target ifs elt) ds st1 es st2) (hfull : ∀ x c, C.env.cells.lookup x = some c → (x, c) ∈ C.stc)
    (hy : stor C y) (hne : y ≠ fnd ∨ fo = none) (hsr : Ro.set ρ y (.lst es) = some ρ') (h : P .next ρ' fo st2)
    (hc : compOk C.env scope = true := by rfl) (hs : noSet iter = true := by rfl) (hsw : swapsWith (.ListComp elt [⟨target, iter, ifs, 0⟩] scope cpos) (some (Expr.Name y py)) pos.line C.env = pure true := by rfl) :
    Ex C ρ fo st (.Assign [Expr.Name y py] (.ListComp elt [⟨target, iter, ifs, 0⟩] scope cpos) pos) P :=
  fun B mu K₀ fa K s Q E S q => by
    show wpAny _ _ (exec (.Assign [Expr.Name y py] (.ListComp elt [⟨target, iter, ifs, 0⟩] scope cpos) pos) C.env) Q E s
    rw [exec_Assign_Name_used _ _ _ _ hsw]
    refine wpAny_bind (wpAny_standAt (wpAny_bind ?_))
    show wpAny _ C.A (do let _ ← comprehension (.ListComp elt [⟨target, iter, ifs, 0⟩] scope cpos) scope C.env _ (newList []) false (eval iter C.env) (some (PySem.assign (Expr.Name y py) C.env))) _ _ s
    refine wpAny_bind (wpAny_mono (wpAny_comprehension_free (use := some (PySem.assign (Expr.Name y py) C.env)) (Q := fun _ s' => Q .next s') rfl (fun x => folded_ok hs _ _) (compOk_clos hc) (compOk_kind hc) (compOk_local hc)
      (comp_core (RR := fun acc L' => compPost (model C.prog C.w) C.A E (some (PySem.assign (Expr.Name y py) C.env)) (fun _ s' => Q .next s') acc L') hit hcm hc hfull S fun D L' h' tk K' m' k S' r hm' hw hn => ?_))
      (fun _ s' hq => wpAny_pure (wpAny_pure hq)) fun _ _ e => e)
    show wpAny _ _ (PySem.assign (Expr.Name y py) C.env (.ref D)) _ _ _
    refine wpAny_assign_Name (S'.storeAny (s := { s with heap := h', toks := tk }) hy fun h2 tk2 keep _ g => ?_)
    have S2 := g ρ' (fun z e' he' => by
      rw [Ro.get_set hsr] at he'
      by_cases hz : z = y
      · rw [if_pos hz] at he' ⊢; cases he'; exact r
      · rw [if_neg hz] at he' ⊢; exact he') hne
    have hm2 : h2.Ns L' m' := hm'.at' fun o e => keep _ o e fun z => hn (List.mem_append.mpr (.inl z))
    exact ⟨m', hm2, fun h'' hs'' => q .next h'' tk2 K' fa .next ρ' fo st2 h k (S2.off (a := L') (fun b o hb e => hs''.extBut b o hb e) hw hn fun v i => cell_ne hm2 i rfl) trivial⟩
end
end Mine
end
section
open PySem PyProof.Rows
set_option linter.unusedVariables false
set_option linter.unusedSimpArgs false
namespace Mine
noncomputable def stm (i : Nat) : Stmt := (PySem.Challenge.pw_pq0973_01.main.body[i]?).getD (.Pass ⟨0, 0, 0, 0⟩)
noncomputable def dN (i : Nat) : Str := match stm i with | .FunctionDef n _ _ _ _ _ _ _ _ _ => n | _ => ""
noncomputable def dP (i : Nat) : Arguments := match stm i with | .FunctionDef _ a _ _ _ _ _ _ _ _ => a | _ => { posonlyargs := [], args := [], vararg := none, kwonlyargs := [], kw_defaults := [], kwarg := none, defaults := [] }
noncomputable def dB (i : Nat) : List Stmt := match stm i with | .FunctionDef _ _ b _ _ _ _ _ _ _ => b | _ => []
noncomputable def dS (i : Nat) : Scope := match stm i with | .FunctionDef _ _ _ _ _ _ s _ _ _ => s | _ => { kind := .function, names := [], isGenerator := false, isCoroutine := false }
noncomputable def cstm (i j : Nat) : Stmt := match stm i with | .ClassDef _ _ _ body _ _ _ _ _ _ _ => (body[j]?).getD (.Pass ⟨0, 0, 0, 0⟩) | _ => .Pass ⟨0, 0, 0, 0⟩
noncomputable def mP (i j : Nat) : Arguments := match cstm i j with | .FunctionDef _ a _ _ _ _ _ _ _ _ => a | _ => { posonlyargs := [], args := [], vararg := none, kwonlyargs := [], kw_defaults := [], kwarg := none, defaults := [] }
noncomputable def mB (i j : Nat) : List Stmt := match cstm i j with | .FunctionDef _ _ b _ _ _ _ _ _ _ => b | _ => []
noncomputable def mS (i j : Nat) : Scope := match cstm i j with | .FunctionDef _ _ _ _ _ _ s _ _ _ => s | _ => { kind := .function, names := [], isGenerator := false, isCoroutine := false }
noncomputable def mfd (nm qual : Str) (i j : Nat) (md cd : Value) : FuncData :=
  { name := nm, qualname := qual, params := mP i j, body := .stmts (mB i j), scope := mS i j, globals := mainGlobals, closure := [], defaults := .none, kwdefaults := .none, pyModule := md, code := cd, builtins := builtinsNs }
noncomputable def MethAt (h : Heap) (f : Addr) (nm qual : Str) (i j : Nat) : Prop := ∃ md cd, h.get? f = some { cls := .type "function", data := .func (mfd nm qual i j md cd) } ∧ h.CodeRec cd qual
/-- the class Reader -/
structure RdF (h : Heap) (mg : Str → Option Value) (K : PySem.W.Frag) (rc fi fl fv : Addr) : Prop where
  kx : K.In h
  nm : mg "Reader" = some (.ref rc)
  keep : PySem.W.keepIn K (.ref rc) = true
  mks : PySem.W.makesIn K rc = true
  i : PySem.W.findIn K (.ref rc) "__init__" = some (some (.ref fi))
  l : PySem.W.findIn K (.ref rc) "left" = some (some (.ref fl))
  v : PySem.W.findIn K (.ref rc) "varint" = some (some (.ref fv))
  ti : PySem.W.typeIn K (.ref fi) = some (.type "function")
  tl : PySem.W.typeIn K (.ref fl) = some (.type "function")
  tv : PySem.W.typeIn K (.ref fv) = some (.type "function")
  ga : PySem.W.findIn K (.ref rc) "__getattribute__" = some (some (.builtin "object.__getattribute__"))
  gk : PySem.W.findIn K (.ref rc) "__getattr__" = some none
  sa : PySem.W.findIn K (.ref rc) "__setattr__" = some (some (.builtin "object.__setattr__"))
  po : PySem.W.plainOver K rc = true
  td : PySem.W.takerIn K rc "data" = some none
  ta : PySem.W.takerIn K rc "at" = some none
  hd : PySem.W.hasDictIn K rc = true
  fd : PySem.W.findIn K (.ref rc) "data" = some none
  fa : PySem.W.findIn K (.ref rc) "at" = some none
  oi : MethAt h fi "__init__" "Reader.__init__" 20 0
  ol : MethAt h fl "left" "Reader.left" 20 1
  ov : MethAt h fv "varint" "Reader.varint" 20 5
/-- what the top has left -/
structure Wd {σ : Type} (C : Cx σ) : Prop where
  nl : C.g₀.NoLimit
  fn : ∀ i n, dN i = n → n ≠ "" → ∃ a o pm cd doc, C.mg n = some (.ref a) ∧ C.g₀.get? a = some o ∧ o.data = .func (Calls.docDef n (dP i) (dB i) (dS i) pm cd doc) ∧ C.g₀.CodeRec cd n
  c1 : ∃ v, C.mg "INTERNAL_ERROR" = some v ∧ Rd C.hv C.g₀.get? v (.int 1)
  c2 : ∃ v, C.mg "FRAME_ENCODING_ERROR" = some v ∧ Rd C.hv C.g₀.get? v (.int 7)
  c3 : ∃ v, C.mg "ACK_TYPE" = some v ∧ Rd C.hv C.g₀.get? v (.int 2)
  c4 : ∃ a o vs n, C.mg "VARINT_SIZES" = some (.ref a) ∧ C.g₀.get? a = some o ∧ o.cls = .type "tuple" ∧ o.dict = none ∧ o.data = .seq vs.toArray n ∧ IntsAre vs [1, 2, 4, 8]
  rf : ∃ K rc fi fl fv, RdF C.g₀ C.mg K rc fi fl fv
noncomputable def Cx.callee {σ : Type} (C : Cx σ) (n : Str) (sc : Scope) (L a : Addr) (cd : Value) : Cx σ :=
  { C with lv := C.lv - 1, A := C.A.deeper (envOfC n sc L a cd), env := envOfC n sc L a cd, stc := cellsFrom (L + 1) sc.names [] }
noncomputable def roNames (sc : Scope) : List (Str × NameKind) := sc.names.filter fun p => p.2 == .local || p.2 == .cell
noncomputable def ro0 (sc : Scope) (ps : List (Str × Dt)) : Ro := (roNames sc).map fun p => (p.1, ps.lookup p.1)
theorem cellsFrom_sub : ∀ {names : List (Str × NameKind)} {lo : Nat} {acc : List (Str × Addr)} {p : Str × Addr}, p ∈ acc → p ∈ cellsFrom lo names acc
  | [], _, _, _, h => h
  | (n, k) :: r, lo, acc, p, h => by
    unfold cellsFrom
    split
    · exact cellsFrom_sub (List.mem_cons_of_mem _ h)
    · exact cellsFrom_sub h
theorem cellsFrom_has : ∀ {names : List (Str × NameKind)} {lo : Nat} {acc : List (Str × Addr)} {n : Str}, (n, NameKind.cell) ∈ names → ∃ c, (n, c) ∈ cellsFrom lo names acc
  | (m, k) :: r, lo, acc, n, h => by
    unfold cellsFrom
    rcases List.mem_cons.mp h with h | h
    · cases h
      rw [if_pos (by simp)]
      exact ⟨_, cellsFrom_sub List.mem_cons_self⟩
    · split
      · exact cellsFrom_has h
      · exact cellsFrom_has h
theorem lookup_isSome {α : Type} : ∀ {l : List (Str × α)} {n : Str} {c : α}, (n, c) ∈ l → (l.lookup n).isSome = true
  | (m, d) :: r, n, c, h => by
    rw [List.lookup_cons]
    cases hb : n == m with
    | true => rfl
    | false =>
      rcases List.mem_cons.mp h with h | h
      · cases h; simp at hb
      · exact lookup_isSome h
noncomputable def noDup : List Str → Bool
  | [] => true
  | x :: r => !r.contains x && noDup r
theorem noDup_nodup : ∀ {l : List Str}, noDup l = true → l.Nodup
  | [], _ => .nil
  | x :: r, h => by
    unfold noDup at h
    simp only [Bool.and_eq_true, Bool.not_eq_true', List.contains_eq_mem, decide_eq_false_iff_not] at h
    exact List.nodup_cons.mpr ⟨h.1, noDup_nodup h.2⟩
theorem lookup_uniq {α : Type} : ∀ {l : List (Str × α)} {n : Str} {c : α}, (l.map (·.1)).Nodup → (n, c) ∈ l → l.lookup n = some c
  | (m, d) :: r, n, c, hn, h => by
    rw [List.map_cons, List.nodup_cons] at hn
    rw [List.lookup_cons]
    rcases List.mem_cons.mp h with h | h
    · cases h; simp
    · have : ¬ n = m := fun e => hn.1 (List.mem_map.mpr ⟨(n, c), h, e⟩)
      have hb : (n == m) = false := by simpa using this
      rw [hb]; exact lookup_uniq hn.2 h
theorem cellsFrom_keys : ∀ {names : List (Str × NameKind)} {lo : Nat} {acc : List (Str × Addr)}, (names.map (·.1)).Nodup → (acc.map (·.1)).Nodup → (∀ p ∈ acc, p.1 ∉ names.map (·.1)) → ((cellsFrom lo names acc).map (·.1)).Nodup
  | [], _, _, _, h, _ => h
  | (n, k) :: r, lo, acc, hn, ha, hd => by
    rw [List.map_cons, List.nodup_cons] at hn
    have hd' : ∀ p ∈ acc, p.1 ∉ r.map (·.1) := fun p hp hm => hd p hp (by rw [List.map_cons]; exact List.mem_cons_of_mem _ hm)
    unfold cellsFrom
    split
    · refine cellsFrom_keys hn.2 ?_ fun p hp => ?_
      · rw [List.map_cons, List.nodup_cons]
        refine ⟨fun hm => ?_, ha⟩
        obtain ⟨p, hp, e⟩ := List.mem_map.mp hm
        exact hd p hp (by rw [List.map_cons, e]; exact List.mem_cons_self)
      · rcases List.mem_cons.mp hp with rfl | hp
        · exact hn.1
        · exact hd' p hp
    · exact cellsFrom_keys hn.2 ha hd'
theorem bindL_not {kf : Str → Option NameKind} : ∀ {bs : List (Str × Value)} {m : Str → Option Value} {x : Str}, x ∉ bs.map (·.1) → bindL kf bs m x = m x
  | [], _, _, _ => rfl
  | (n, v) :: r, m, x, h => by
    rw [List.map_cons, List.mem_cons, not_or] at h
    unfold bindL
    rw [bindL_not h.2]
    split
    · exact if_neg h.1
    · rfl
theorem bindC_not {kf : Str → Option NameKind} : ∀ {bs : List (Str × Value)} {m : Str → Option Value} {x : Str}, x ∉ bs.map (·.1) → bindC kf bs m x = m x
  | [], _, _, _ => rfl
  | (n, v) :: r, m, x, h => by
    rw [List.map_cons, List.mem_cons, not_or] at h
    unfold bindC
    rw [bindC_not h.2]
    split
    · rfl
    · exact if_neg h.1
theorem bindL_get {kf : Str → Option NameKind} {x : Str} {v : Value} (hk : kf x = some .local) : ∀ {bs : List (Str × Value)} {m : Str → Option Value}, (bs.map (·.1)).Nodup → (x, v) ∈ bs → bindL kf bs m x = some v
  | (n, u) :: r, m, hn, h => by
    rw [List.map_cons, List.nodup_cons] at hn
    unfold bindL
    rcases List.mem_cons.mp h with h | h
    · cases h
      rw [bindL_not hn.1, if_pos hk, if_pos rfl]
    · exact bindL_get hk hn.2 h
theorem bindC_get {kf : Str → Option NameKind} {x : Str} {v : Value} (hk : ¬ kf x = some .local) : ∀ {bs : List (Str × Value)} {m : Str → Option Value}, (bs.map (·.1)).Nodup → (x, v) ∈ bs → bindC kf bs m x = some v
  | (n, u) :: r, m, hn, h => by
    rw [List.map_cons, List.nodup_cons] at hn
    unfold bindC
    rcases List.mem_cons.mp h with h | h
    · cases h
      rw [bindC_not hn.1, if_neg hk, if_pos rfl]
    · exact bindC_get hk hn.2 h
theorem zip_rd {hv : Nat → Value} {K : Kn} : ∀ {ps : List (Str × Dt)} {vs : List Value} {x : Str} {d : Dt}, Rds hv K vs (ps.map (·.2)) → ps.lookup x = some d → ∃ v, (x, v) ∈ (ps.map (·.1)).zip vs ∧ Rd hv K v d
  | (n, e) :: r, vs, x, d, h, hx => by
    rw [List.map_cons] at h
    cases h with
    | @cons v vs' _ _ h1 h2 =>
      rw [List.lookup_cons] at hx
      cases hb : x == n with
      | true =>
        rw [hb] at hx; cases hx
        have : x = n := by simpa using hb
        exact ⟨v, by rw [this]; exact List.mem_cons_self, h1⟩
      | false =>
        rw [hb] at hx
        obtain ⟨v', hm, r'⟩ := zip_rd h2 hx
        exact ⟨v', List.mem_cons_of_mem _ hm, r'⟩
theorem zip_keys {α β : Type} : ∀ {xs : List α} {vs : List β}, xs.length = vs.length → (xs.zip vs).map (·.1) = xs
  | [], _, _ => rfl
  | x :: r, v :: vs, h => by rw [List.zip_cons_cons, List.map_cons, zip_keys (by simpa using h)]
/-- the scope of a def and its parameters, as we need them -/
noncomputable def sigOk (sc : Scope) (xs : List Str) : Bool := noDup (sc.names.map (·.1)) && noDup xs && xs.all (fun x => sc.names.lookup x == some .local || sc.names.lookup x == some .cell) && !sc.isCoroutine && !sc.isGenerator && sc.kind == .function
section
variable {σ : Type} {C : Cx σ} {ρ ρ' ρ₁ ρ₂ : Ro} {fo fo' : Option (List Dt)} {ds es : List Dt} {st st1 st2 st3 : σ} {P : Post σ} {B : Heap} {mu : List Addr} {K₀ : Kn} {fa : Addr} {K : Kn} {h h' : Heap} {sc : Scope} {n : Str} {a : Addr} {cd : Value}
theorem ro0_get {ps : List (Str × Dt)} {x : Str} {d : Dt} (h : (ro0 sc ps).get x = some d) : ps.lookup x = some d := by
  have key : ∀ (l : List (Str × NameKind)), (l.map fun p => (p.1, ps.lookup p.1)).lookup x = (l.lookup x).map fun _ => ps.lookup x := by
    intro l
    induction l with
    | nil => rfl
    | cons p r ih =>
      obtain ⟨n, k⟩ := p
      rw [List.map_cons, List.lookup_cons, List.lookup_cons]
      by_cases e : x = n
      · subst e; simp
      · have hb : (x == n) = false := by simpa using e
        simp only [hb]; exact ih
  replace h : (match (ro0 sc ps).lookup x with | some (some d) => some d | _ => none) = some d := h
  rw [show (ro0 sc ps).lookup x = _ from key _] at h
  cases hk : (roNames sc).lookup x with
  | none => rw [hk] at h; cases h
  | some k =>
    rw [hk] at h
    cases hq : ps.lookup x with
    | none => rw [hq] at h; cases h
    | some d' => rw [hq] at h; cases h; rfl
structure Pre {σ : Type} (C : Cx σ) (K : Kn) (st : σ) (h : Heap) : Prop where
  hh : C.A.handled = none
  room : Room C.A C.lv
  bl : ∀ x v, builtF.lookup x = some v → C.mg x = none ∧ C.mb x = some v
  g : C.g₀.Ns mainGlobals C.mg
  b : C.g₀.Ns builtinsNs C.mb
  sgk : ∀ st h h', (∀ a ∈ C.fp, ∀ o, h.get? a = some o → h'.get? a = some o) → C.Sg st h → C.Sg st h'
  kn : ∀ a o, K a = some o → h.get? a = some o
  top : ∀ a o, C.g₀.get? a = some o → K a = some o
  fp : ∀ a ∈ C.fp, K a = none ∧ (h.get? a).isSome = true
  nd : C.fp.Nodup
  sg : C.Sg st h
theorem St.pre (S : St C B mu K₀ fa ρ fo K st h) : Pre C K st h := ⟨S.ok.hh, S.ok.room, S.ok.bl, S.ok.g, S.ok.b, S.ok.sgk, S.kn, S.top, fun a ha => S.mt a (List.mem_append.mpr (.inr ha)), by
  have nd := S.nd
  rw [List.nodup_append] at nd
  exact nd.2.1, S.sg⟩
theorem Pre.start {ps : List (Str × Dt)} {vs : List Value} {h₁ : Heap} (S : Pre C K st h) (hl : 1 ≤ C.lv) (hs : sigOk sc (ps.map (·.1)) = true) (r : Rds C.hv K vs (ps.map (·.2)))
    (F : Fr h h.objs.size h₁ (bindL (envOfC n sc h.objs.size a cd).kindOf ((ps.map (·.1)).zip vs) fun _ => none))
    (X : PyProof.Rows.Cl h.objs.size (cellsFrom (h.objs.size + 1) sc.names []) h₁ (bindC (envOfC n sc h.objs.size a cd).kindOf ((ps.map (·.1)).zip vs) fun _ => none)) :
    St (C.callee n sc h.objs.size a cd) h [] K 0 (ro0 sc ps) none K st h₁ := by
  unfold sigOk at hs
  simp only [Bool.and_eq_true] at hs
  obtain ⟨⟨⟨⟨⟨s1, s2⟩, s3⟩, _⟩, _⟩, s6⟩ := hs
  have nd1 := noDup_nodup s1
  have nd2 := noDup_nodup s2
  have hlen : (ps.map (·.1)).length = vs.length := by rw [r.length]; simp
  have hk : ((ps.map (·.1)).zip vs).map (·.1) = ps.map (·.1) := zip_keys hlen
  have nd2' : (((ps.map (·.1)).zip vs).map (·.1)).Nodup := by rw [hk]; exact nd2
  have low : ∀ b o, h.get? b = some o → b < h.objs.size := fun b o e => Heap.lt_size e
  have eo : ownL (C.callee n sc h.objs.size a cd) 0 none = h.objs.size :: (cellsFrom (h.objs.size + 1) sc.names []).map (·.2) := by
    simp [ownL, Cx.callee, envOfC]
  have own_ge : ∀ b ∈ ownL (C.callee n sc h.objs.size a cd) 0 none, h.objs.size ≤ b := fun b hb => by
    rw [eo] at hb
    rcases List.mem_cons.mp hb with rfl | hb
    · exact Nat.le_refl _
    · obtain ⟨p, hp, rfl⟩ := List.mem_map.mp hb
      exact Nat.le_of_lt (X.above p.1 p.2 hp)
  have fp_lt : ∀ b ∈ C.fp, b < h.objs.size := fun b hb => by
    obtain ⟨o, ho⟩ := Option.isSome_iff_exists.mp (S.fp b hb).2
    exact low b o ho
  have ckeys : ((cellsFrom (h.objs.size + 1) sc.names []).map (·.1)).Nodup := cellsFrom_keys nd1 .nil fun p hp => nomatch hp
  have o := S
  exact {
    ok := {
      hh := o.hh
      room := by
        have h1 := o.room
        have h2 := hl
        have e1 : (C.callee n sc h.objs.size a cd).A.depth = C.A.depth + 1 := rfl
        have e2 : (C.callee n sc h.objs.size a cd).A.units = C.A.units + 3 := rfl
        have e3 : (C.callee n sc h.objs.size a cd).lv = C.lv - 1 := rfl
        unfold Room at h1 ⊢
        rw [e1, e2, e3]
        omega
      bl := o.bl
      kind := (by simpa using s6 : sc.kind = .function)
      glob := rfl
      bui := rfl
      g := o.g
      b := o.b
      sgk := o.sgk
      cl := fun p hp => lookup_uniq ckeys hp
      ci := fun p hp y hy => name_of_addr X.apart (mem_of_lookup hy) hp
      cf := fun x c hx hf => by
        have h1 := fp_lt c hf
        have h2 := X.above x c (mem_of_lookup hx)
        exact Nat.lt_irrefl _ (Nat.lt_trans h1 h2) }
    base := fun b o e _ _ => F.keep b o e
    ex := fun b hb => by
      obtain ⟨o, ho⟩ := Option.isSome_iff_exists.mp hb
      rw [F.keep b o ho]; rfl
    kx := fun a o e => Or.inl e
    kn := fun a o e => F.keep a o (S.kn a o e)
    top := S.top
    mt := fun b hb => by
      rcases List.mem_append.mp hb with hb | hb
      · refine ⟨?_, ?_⟩
        · cases e : K b with
          | none => rfl
          | some o => exact absurd (low b o (S.kn b o e)) (Nat.not_lt.mpr (own_ge b hb))
        · rw [eo] at hb
          rcases List.mem_cons.mp hb with rfl | hb
          · obtain ⟨o, _, _, ho, _⟩ := F.ns; rw [ho]; rfl
          · obtain ⟨p, hp, rfl⟩ := List.mem_map.mp hb
            obtain ⟨o, ho, _⟩ := X.cell p.1 p.2 (lookup_uniq ckeys hp)
            rw [ho]; rfl
      · obtain ⟨h1, h2⟩ := S.fp b hb
        obtain ⟨o, ho⟩ := Option.isSome_iff_exists.mp h2
        exact ⟨h1, by rw [F.keep b o ho]; rfl⟩
    ow := fun b hb => Or.inr (by
      cases e : h.get? b with
      | none => rfl
      | some o => exact absurd (low b o e) (Nat.not_lt.mpr (own_ge b hb)))
    nd := by
      rw [List.nodup_append]
      refine ⟨?_, ?_, fun x hx y hy e => ?_⟩
      · rw [eo, List.nodup_cons]
        refine ⟨fun hm => ?_, ?_⟩
        · obtain ⟨p, hp, e⟩ := List.mem_map.mp hm
          have := X.above p.1 p.2 hp
          rw [e] at this; exact Nat.lt_irrefl _ this
        · rw [List.Nodup, List.pairwise_map]
          exact X.apart
      · exact S.nd
      · have h1 := own_ge x hx
        have h2 := fp_lt y hy
        rw [e] at h1
        exact Nat.lt_irrefl _ (Nat.lt_of_lt_of_le h2 h1)
    fr := by
      refine ⟨_, F.ns, fun x d e => ?_, fun _ e => by cases e⟩
      have hp := ro0_get e
      obtain ⟨v, hm, rv⟩ := zip_rd r hp
      refine ⟨v, ?_, rv⟩
      have hx : x ∈ ps.map (·.1) := List.mem_map.mpr ⟨_, mem_of_lookup hp, rfl⟩
      have := List.all_eq_true.mp s3 x hx
      rw [Bool.or_eq_true] at this
      rcases this with q | q
      · have q' : (envOfC n sc h.objs.size a cd).kindOf x = some .local := (by simpa using q : sc.names.lookup x = some .local)
        exact Or.inl ⟨q', bindL_get q' nd2' hm⟩
      · have q' : (envOfC n sc h.objs.size a cd).kindOf x = some .cell := (by simpa using q : sc.names.lookup x = some .cell)
        have q'' : sc.names.lookup x = some .cell := q'
        obtain ⟨c, hc⟩ := cellsFrom_has (lo := h.objs.size + 1) (acc := []) (mem_of_lookup q'')
        refine Or.inr ⟨Or.inl q', c, lookup_uniq ckeys hc, ?_⟩
        have := X.cell x c (lookup_uniq ckeys hc)
        rwa [bindC_get (kf := (envOfC n sc h.objs.size a cd).kindOf) (by rw [q']; decide) nd2' hm] at this
    fl := fun _ e => by cases e
    ce := fun p hp => ⟨_, X.cell p.1 p.2 (lookup_uniq ckeys hp)⟩
    sg := o.sgk st _ _ (fun a _ o e => F.keep a o e) S.sg }
theorem St.start {ps : List (Str × Dt)} {vs : List Value} {h₁ : Heap} (S : St C B mu K₀ fa ρ fo K st h) (hl : 1 ≤ C.lv) (hs : sigOk sc (ps.map (·.1)) = true) (r : Rds C.hv K vs (ps.map (·.2)))
    (F : Fr h h.objs.size h₁ (bindL (envOfC n sc h.objs.size a cd).kindOf ((ps.map (·.1)).zip vs) fun _ => none))
    (X : PyProof.Rows.Cl h.objs.size (cellsFrom (h.objs.size + 1) sc.names []) h₁ (bindC (envOfC n sc h.objs.size a cd).kindOf ((ps.map (·.1)).zip vs) fun _ => none)) :
    St (C.callee n sc h.objs.size a cd) h [] K 0 (ro0 sc ps) none K st h₁ := S.pre.start hl hs r F X
theorem St.home {C' : Cx σ} {fa' : Addr} {K' : Kn} (S : St C B mu K₀ fa ρ fo K st h) (le : KLe K K') (hfp : C'.fp = C.fp) (hsg : C'.Sg = C.Sg) (hg : C'.g₀ = C.g₀) (S' : St C' h [] K fa' ρ' fo' K' st1 h') : St C B mu K₀ fa ρ fo K' st1 h' := by
  have kp : ∀ b o, h.get? b = some o → b ∉ C.fp → h'.get? b = some o := fun b o e hf => S'.base b o e (fun z => nomatch z) (hfp ▸ hf)
  have own_fp : ∀ a ∈ ownL C fa fo, a ∉ C.fp := fun a ha hf => by
    have nd := S.nd
    rw [List.nodup_append] at nd
    exact nd.2.2 a ha a hf rfl
  have ofown : ∀ a ∈ ownL C fa fo, ∀ o, h.get? a = some o → h'.get? a = some o := fun a ha o e => kp a o e (own_fp a ha)
  have ofcell : ∀ x c, C.env.cells.lookup x = some c → ∀ v, h.IsCell c v → h'.IsCell c v := fun x c hx v i => by
    obtain ⟨o, ho, hd⟩ := i
    exact ⟨o, kp c o ho (S.ok.cf x c hx), hd⟩
  obtain ⟨m, hm, hr, hf⟩ := S.fr
  exact {
    ok := S.ok
    base := fun b o e hb hf' => kp b o (S.base b o e hb hf') hf'
    ex := fun b hb => S'.ex b (S.ex b hb)
    kx := fun a o e => by
      rcases S'.kx a o e with w | w | w
      · exact S.kx a o w
      · right; left
        cases z : B.get? a with
        | none => rfl
        | some x => have := S.ex a (by rw [z]; rfl); rw [w] at this; cases this
      · cases w
    kn := S'.kn
    top := hg ▸ S'.top
    mt := fun a ha => ⟨by
        cases e : K' a with
        | none => rfl
        | some o =>
          rcases S'.kx a o e with w | w | w
          · have := (S.mt a ha).1; rw [w] at this; cases this
          · have := (S.mt a ha).2; rw [w] at this; cases this
          · exact (nomatch w), S'.ex a (S.mt a ha).2⟩
    ow := S.ow
    nd := S.nd
    fr := ⟨m, hm.at' fun o e => ofown _ St.L_mem o e, fun x d e => by
        obtain ⟨v, l, r⟩ := hr x d e
        exact ⟨v, Look.imp_cell (fun c hc v i => ofcell _ c hc v i) l, r.mono le⟩,
      fun ds e => Look.imp_cell (fun c hc v i => ofcell _ c hc v i) (hf ds e)⟩
    fl := fun ds e => let ⟨vs, n, g, hl, r⟩ := S.fl ds e; ⟨vs, n, ofown fa (by subst e; simp [ownL]) _ g, hl, r.mono le⟩
    ce := fun p hp => let ⟨v, i⟩ := S.ce p hp; ⟨v, ofcell p.1 p.2 (S.ok.cl p hp) v i⟩
    sg := hsg ▸ S'.sg }
/-- a def called, its body walked -/
theorem FnOk.of_body {i : Nat} {n : Str} {ps : List (Str × Dt)} {d : Dt} (W : Wd C) (hn : dN i = n) (hne : n ≠ "") (hl : 1 ≤ C.lv) (hs : sigOk (dS i) (ps.map (·.1)) = true)
    (hb : ∀ pm cd doc (vs : List Value), vs.length = ps.length → bindArgs (Calls.docDef n (dP i) (dB i) (dS i) pm cd doc) ⟨vs, []⟩ = pure ((ps.map (·.1)).zip vs))
    (body : ∀ L a cd, Exs (C.callee n (dS i) L a cd) (ro0 (dS i) ps) none st (dB i) (fun fl _ _ st' => fl = .ret d ∧ st' = st1)) : FnOk C n (ps.map (·.2)) st d st1 := by
  obtain ⟨a, o, pm, cd, doc, h1, h2, h3, h4⟩ := W.fn i n hn hne
  refine ⟨a, o, _, h1, h2, h3, fun B mu K₀ fa ρ fo K s vs Q E S r q => ?_⟩
  have hs' := hs
  unfold sigOk at hs'
  simp only [Bool.and_eq_true] at hs'
  obtain ⟨⟨⟨⟨⟨s1, s2⟩, s3⟩, s4⟩, s5⟩, s6⟩ := hs'
  have hlen : vs.length = ps.length := by rw [r.length]; simp
  have hroom : C.A.depth < recursionLimit := by have := S.ok.room.1; omega
  refine wpAny_call (call_cells_ret (binds := (ps.map (·.1)).zip vs) hroom (S.gk _ _ h2) h3 (W.nl.keeps S.gk) (h4.keeps S.gk) (hb pm cd doc vs hlen) (fun x hx => ?_) (fun h₁ tk F X => ?_) (by simpa using s4) (by simpa using s5) (by simpa using s6))
  · have hx' : x.1 ∈ ps.map (·.1) := by
      have : x.1 ∈ ((ps.map (·.1)).zip vs).map (·.1) := List.mem_map.mpr ⟨x, hx, rfl⟩
      rwa [zip_keys (by rw [hlen]; simp)] at this
    have := List.all_eq_true.mp s3 x.1 hx'
    rw [Bool.or_eq_true] at this
    rcases this with q | q
    · exact Or.inl (by simpa using q)
    · have q' : (dS i).names.lookup x.1 = some .cell := by simpa using q
      obtain ⟨c, hc⟩ := cellsFrom_has (lo := s.heap.objs.size + 1) (acc := []) (mem_of_lookup q')
      exact Or.inr ⟨q', lookup_isSome hc⟩
  · have S1 := S.start (n := n) (a := a) (cd := cd) hl hs r F X
    refine body s.heap.objs.size a cd s.heap [] K 0 K { s with heap := h₁, toks := tk } _ _ S1 fun f h' tk' K' fa' fl ρ' fo' st' p k S' r' => ?_
    obtain ⟨rfl, rfl⟩ := p
    cases f with
    | ret v => exact q v h' tk' K' k (S.home (C' := C.callee n (dS i) s.heap.objs.size a cd) k rfl rfl rfl S') r'
    | _ => cases r'
end
end Mine
end
section
open PySem PyProof.Rows
set_option linter.unusedVariables false
set_option linter.unusedSimpArgs false
namespace Mine
noncomputable def pr (p : Int × Int) : Dt := .tup [.int p.1, .int p.2]
noncomputable def rng (rs : List (Int × Int)) : List Dt := rs.map pr
section
variable {σ : Type} {C : Cx σ} {ρ : Ro} {fo : Option (List Dt)} {st st1 : σ} {e : Expr} {b b' : Bool} {d d' : Dt} {P : Post σ}
theorem Tst.as (h : Tst C ρ fo st e b st1) (hb : b = b') : Tst C ρ fo st e b' st1 := hb ▸ h
theorem Ev.as (h : Ev C ρ fo st e d st1) (hb : d = d') : Ev C ρ fo st e d' st1 := hb ▸ h
theorem Ex.forM {α : Type} {f : α → Dt} {xs : List α} {target iter : Expr} {body : List Stmt} {pos : Pos} (hit : It C ρ fo st iter (xs.map f) st1) (J : List α → Ro → Option (List Dt) → σ → Prop) (h0 : J xs ρ fo st1)
    (turn : ∀ x r ρ fo st, J (x :: r) ρ fo st → ∃ ρ₁, Bind C fo target (f x) ρ ρ₁ ∧ Exs C ρ₁ fo st body (fun fl ρ' fo' st' => match fl with | .next => J r ρ' fo' st' | .brk => P .next ρ' fo' st' | .ret r => P (.ret r) ρ' fo' st'))
    (done : ∀ ρ fo st, J [] ρ fo st → P .next ρ fo st) (hs : noSet iter = true := by rfl) : Ex C ρ fo st (.For target iter body [] pos) P := by
  refine Ex.for hit (fun pre ρ fo st => ∃ d r, xs = d ++ r ∧ pre = d.map f ∧ J r ρ fo st) ⟨[], xs, rfl, rfl, h0⟩ (fun pre d post ρ fo st e ⟨dn, r, h1, h2, hJ⟩ => ?_) (fun ρ fo st ⟨dn, r, h1, h2, hJ⟩ => ?_) hs
  · rw [h1, List.map_append, h2] at e
    have e' := List.append_cancel_left e
    cases r with
    | nil => cases e'
    | cons x r =>
      rw [List.map_cons] at e'
      cases e'
      obtain ⟨ρ₁, hb, hx⟩ := turn x r ρ fo st hJ
      refine ⟨ρ₁, hb, hx.mono fun fl ρ' fo' st' p => ?_⟩
      cases fl with
      | next => exact ⟨dn ++ [x], r, by rw [h1]; simp, by rw [h2]; simp, p⟩
      | brk => exact p
      | ret r => exact p
  · rw [h1, List.map_append] at h2
    have : r.map f = [] := List.append_right_eq_self.mp h2
    have : r = [] := by simpa using this
    subst this
    exact done ρ fo st hJ
theorem Cmp.filt {step : Dt → Option Dt → σ → σ → Prop} {α : Type} {f : α → Dt} {g : α → Option Dt} : ∀ {xs : List α}, (∀ x ∈ xs, step (f x) (g x) st st) → Cmp step (xs.map f) st (xs.filterMap g) st
  | [], _ => .nil
  | x :: r, h => by
    rw [List.map_cons, List.filterMap_cons]
    have ih := Cmp.filt (xs := r) fun y hy => h y (List.mem_cons_of_mem _ hy)
    have hx := h x List.mem_cons_self
    cases hg : g x with
    | none => rw [hg] at hx; exact .drop hx ih
    | some e => rw [hg] at hx; exact .keep hx ih
theorem Cmp.map {step : Dt → Option Dt → σ → σ → Prop} {α : Type} {f g : α → Dt} {xs : List α} (h : ∀ x ∈ xs, step (f x) (some (g x)) st st) : Cmp step (xs.map f) st (xs.map g) st := by
  have := Cmp.filt (step := step) (f := f) (g := fun x => some (g x)) (xs := xs) (st := st) h
  rwa [List.filterMap_eq_map'] at this
theorem item0 {d : Dt} {r : List Dt} : ItemR (.tup (d :: r)) (.int 0) d := .tup _ 0 0 _ (by decide) (by decide) (by simp [seqIndex?]) rfl
theorem item1 {c d : Dt} {r : List Dt} : ItemR (.tup (c :: d :: r)) (.int 1) d := .tup _ 1 1 _ (by decide) (by decide) (by simp [seqIndex?]; omega) rfl
theorem itemL0 {d : Dt} {r : List Dt} : ItemR (.lst (d :: r)) (.int 0) d := .lst _ 0 0 _ (by decide) (by decide) (by simp [seqIndex?]) rfl
noncomputable abbrev vsd : Dt := .tup [.int 1, .int 2, .int 4, .int 8]
theorem Wd.vs (W : Wd C) : ∃ v, C.mg "VARINT_SIZES" = some v ∧ Rd C.hv C.g₀.get? v vsd :=
  let ⟨_, _, _, _, h1, h2, h3, _, h5, h6⟩ := W.c4
  ⟨_, h1, .tup h2 h3 h5 (Nat.le_of_ble_eq_true rfl) (intsAre_rds h6)⟩
theorem fn_largest (W : Wd C) (hl : 1 ≤ C.lv) (rs : List (Int × Int)) : FnOk C "largest_of" [.lst (rng rs)] st (match rs with | [] => .none | p :: _ => .int p.2) st := by
  refine FnOk.of_body (i := 24) (ps := [("ranges", .lst (rng rs))]) W rfl (by decide) hl rfl (fun pm cd doc vs h => by match vs, h with | [a], _ => rfl) fun L a cd => ?_
  refine Exs.cons (Ex.ret (st1 := st) ?_ ⟨rfl, rfl⟩)
  cases rs with
  | nil => exact Ev.ite_f (Tst.cmp (Ev.callB rfl (Es.cons (Ev.name rfl) Es.nil) (.lenL _)) Ev.cint (.gtI _ _)) Ev.cnone
  | cons p r =>
    exact Ev.ite_t (Tst.as (Tst.cmp (Ev.callB rfl (Es.cons (Ev.name rfl) Es.nil) (.lenL _)) Ev.cint (.gtI _ _)) (by simp [rng]))
      (Ev.item (Ev.item (Ev.name rfl) Ev.cint itemL0) Ev.cint item1)
theorem fn_ack_of (W : Wd C) (hl : 1 ≤ C.lv) (ds : List Dt) (k : Int) : FnOk C "ack_of" [.lst ds, .int k] st (.lst (cut ds none (some k))) st := by
  refine FnOk.of_body (i := 26) (ps := [("ranges", .lst ds), ("most", .int k)]) W rfl (by decide) hl rfl (fun pm cd doc vs h => by match vs, h with | [a, b], _ => rfl) fun L a cd => ?_
  exact Exs.cons (Ex.ret (st1 := st) (Ev.callB rfl (Es.cons (Ev.sliceL (Ev.name rfl) Eo.none (Eo.some (Ev.name rfl))) Es.nil) (.listL _)) ⟨rfl, rfl⟩)
end
theorem lt_t {x y : Int} (h : x < y) : CmpR .Lt (.int x) (.int y) true := by simpa [h] using CmpR.ltI x y
theorem lt_f {x y : Int} (h : ¬ x < y) : CmpR .Lt (.int x) (.int y) false := by simpa [h] using CmpR.ltI x y
theorem le_t {x y : Int} (h : x ≤ y) : CmpR .LtE (.int x) (.int y) true := by simpa [h] using CmpR.leI x y
theorem le_f {x y : Int} (h : ¬ x ≤ y) : CmpR .LtE (.int x) (.int y) false := by simpa [h] using CmpR.leI x y
theorem gt_t {x y : Int} (h : y < x) : CmpR .Gt (.int x) (.int y) true := by simpa [h] using CmpR.gtI x y
theorem gt_f {x y : Int} (h : ¬ y < x) : CmpR .Gt (.int x) (.int y) false := by simpa [h] using CmpR.gtI x y
theorem ge_t {x y : Int} (h : y ≤ x) : CmpR .GtE (.int x) (.int y) true := by simpa [h] using CmpR.geI x y
theorem ge_f {x y : Int} (h : ¬ y ≤ x) : CmpR .GtE (.int x) (.int y) false := by simpa [h] using CmpR.geI x y
theorem eq_t {x y : Int} (h : x = y) : CmpR .Eq (.int x) (.int y) true := by simpa [h] using CmpR.eqI x y
theorem eq_f {x y : Int} (h : ¬ x = y) : CmpR .Eq (.int x) (.int y) false := by
  have := CmpR.eqI x y
  rwa [show (x == y) = false by simpa using h] at this
theorem ne_f {x y : Int} (h : x = y) : CmpR .NotEq (.int x) (.int y) false := by simpa [h] using CmpR.neI x y
section
variable {σ : Type} {C : Cx σ} {ρ : Ro} {fo : Option (List Dt)} {st st1 : σ} {e : Expr} {b b' : Bool} {d d' : Dt} {P : Post σ}
noncomputable def vsz (n : Int) : Int := if n < 64 then 1 else if n < 16384 then 2 else 4
theorem fn_varint_size (W : Wd C) (hl : 1 ≤ C.lv) (n : Int) (h0 : 0 ≤ n) (h1 : n < 1073741824) : FnOk C "varint_size" [.int n] st (.int (vsz n)) st := by
  refine FnOk.of_body (i := 10) (ps := [("n", .int n)]) W rfl (by decide) hl rfl (fun pm cd doc vs h => by match vs, h with | [a], _ => rfl) fun L a cd => ?_
  obtain ⟨v, hv1, hv2⟩ := W.vs
  refine Exs.cons (Ex.forM (f := Dt.int) (xs := [1, 2, 4, 8]) (It.tup (Ev.glob hv1 hv2)) (fun r ρ fo st' => fo = none ∧ st' = st ∧ (∃ x, ρ = ([("n", some (.int n)), ("size", x)] : Ro)) ∧
    ((r = [1, 2, 4, 8]) ∨ (r = [2, 4, 8] ∧ 64 ≤ n) ∨ (r = [4, 8] ∧ 16384 ≤ n))) ⟨rfl, rfl, ⟨none, rfl⟩, Or.inl rfl⟩ ?_ ?_)
  · rintro k r ρ fo st' ⟨rfl, rfl, ⟨x, rfl⟩, hr⟩
    refine ⟨_, .name (Or.inl rfl) (Or.inr rfl) rfl, ?_⟩
    rcases hr with hr | ⟨hr, hb⟩ | ⟨hr, hb⟩ <;> cases hr
    · by_cases hlt : n < 64
      · refine Exs.cons (Ex.ite_t (Tst.cmp2t Ev.cint (Ev.name rfl) (le_t h0) (Ev.bin Ev.cint (Ev.bin (Ev.bin Ev.cint (Ev.name rfl) (.mulI _ _ (by decide))) Ev.cint (.subI _ _)) (.shlI _ _ (by decide) (by decide) (by decide))) (lt_t (by simpa using hlt))) (Exs.cons (Ex.ret (Ev.name rfl) ⟨?_, rfl⟩)))
        rw [vsz, if_pos hlt]
      · refine Exs.cons (Ex.ite_f (Tst.cmp2t Ev.cint (Ev.name rfl) (le_t h0) (Ev.bin Ev.cint (Ev.bin (Ev.bin Ev.cint (Ev.name rfl) (.mulI _ _ (by decide))) Ev.cint (.subI _ _)) (.shlI _ _ (by decide) (by decide) (by decide))) (lt_f (by simpa using hlt))) (Exs.nil (Exs.nil ⟨rfl, rfl, ⟨_, rfl⟩, Or.inr (Or.inl ⟨rfl, by omega⟩)⟩)))
    · by_cases hlt : n < 16384
      · refine Exs.cons (Ex.ite_t (Tst.cmp2t Ev.cint (Ev.name rfl) (le_t h0) (Ev.bin Ev.cint (Ev.bin (Ev.bin Ev.cint (Ev.name rfl) (.mulI _ _ (by decide))) Ev.cint (.subI _ _)) (.shlI _ _ (by decide) (by decide) (by decide))) (lt_t (by simpa using hlt))) (Exs.cons (Ex.ret (Ev.name rfl) ⟨?_, rfl⟩)))
        rw [vsz, if_neg (by omega), if_pos hlt]
      · refine Exs.cons (Ex.ite_f (Tst.cmp2t Ev.cint (Ev.name rfl) (le_t h0) (Ev.bin Ev.cint (Ev.bin (Ev.bin Ev.cint (Ev.name rfl) (.mulI _ _ (by decide))) Ev.cint (.subI _ _)) (.shlI _ _ (by decide) (by decide) (by decide))) (lt_f (by simpa using hlt))) (Exs.nil (Exs.nil ⟨rfl, rfl, ⟨_, rfl⟩, Or.inr (Or.inr ⟨rfl, by omega⟩)⟩)))
    · refine Exs.cons (Ex.ite_t (Tst.cmp2t Ev.cint (Ev.name rfl) (le_t h0) (Ev.bin Ev.cint (Ev.bin (Ev.bin Ev.cint (Ev.name rfl) (.mulI _ _ (by decide))) Ev.cint (.subI _ _)) (.shlI _ _ (by decide) (by decide) (by decide))) (lt_t (by simpa using h1))) (Exs.cons (Ex.ret (Ev.name rfl) ⟨?_, rfl⟩)))
      rw [vsz, if_neg (by omega), if_neg (by omega)]
  · rintro ρ fo st' ⟨_, _, _, hr⟩
    rcases hr with hr | ⟨hr, _⟩ | ⟨hr, _⟩ <;> cases hr
noncomputable def rangesF (lo : Int) : List (Int × Int) → List (Int × Int)
  | [] => []
  | (g, s) :: r => (lo - g - 2 - s, lo - g - 2) :: rangesF (lo - g - 2 - s) r
noncomputable def rangesOk (lo : Int) : List (Int × Int) → Prop
  | [] => True
  | (g, s) :: r => 0 ≤ lo - g - 2 - s ∧ rangesOk (lo - g - 2 - s) r
theorem last_item {ds : List Dt} {d : Dt} : seqIndex? (-1) (ds ++ [d]).length = some ds.length := by
  have := PySem.seqIndex_neg (k := -1) (n := (ds ++ [d]).length) (by decide) (by simp; omega)
  rw [this]; simp; omega
theorem last_get {ds : List Dt} {d : Dt} : (ds ++ [d])[ds.length]? = some d := by simp
theorem fn_ranges_of (W : Wd C) (hl : 1 ≤ C.lv) (L f : Int) (ps : List (Int × Int)) (hf : f ≤ L) (hp : rangesOk (L - f) ps) (hlen : ps.length ≤ 1000) :
    FnOk C "ranges_of" [.int L, .int f, .lst (rng ps)] st (.lst (rng ((L - f, L) :: rangesF (L - f) ps))) st := by
  refine FnOk.of_body (i := 16) (ps := [("largest", .int L), ("first", .int f), ("pairs", .lst (rng ps))]) W rfl (by decide) hl rfl (fun pm cd doc vs h => by match vs, h with | [a, b, c], _ => rfl) fun L' a cd => ?_
  refine Exs.cons (Ex.ite_f (Tst.cmp (Ev.name rfl) (Ev.name rfl) (gt_f (by omega))) (Exs.nil ?_))
  refine Exs.cons (Ex.own (Es.cons (Ev.tuple (Es.cons (Ev.bin (Ev.name rfl) (Ev.name rfl) (.subI _ _)) (Es.cons (Ev.name rfl) Es.nil))) Es.nil) (Or.inl rfl) (Nat.le_of_ble_eq_true rfl) rfl ?_)
  refine Exs.cons (Ex.forM (f := pr) (xs := ps) (It.list (Ev.name rfl)) (fun r ρ fo st' => st' = st ∧ (∃ x y z, ρ = ([("largest", some (.int L)), ("first", some (.int f)), ("pairs", some (.lst (rng ps))), ("found", none), ("gap", x), ("size", y), ("high", z)] : Ro)) ∧
    ∃ dn lo hi, fo = some (rng dn ++ [pr (lo, hi)]) ∧ rangesOk lo r ∧ dn ++ (lo, hi) :: rangesF lo r = (L - f, L) :: rangesF (L - f) ps ∧ dn.length + r.length = ps.length) ⟨rfl, ⟨none, none, none, rfl⟩, [], L - f, L, rfl, hp, rfl, by simp⟩ ?_ ?_)
  · rintro ⟨g, s⟩ r ρ fo st' ⟨rfl, ⟨x, y, z, rfl⟩, dn, lo, hi, rfl, hok, heq, hn⟩
    refine ⟨_, .tup (.cons (Or.inl rfl) (Or.inl (by decide)) rfl (.cons (Or.inl rfl) (Or.inl (by decide)) rfl .nil)), ?_⟩
    refine Exs.cons (Ex.assign (Ev.bin (Ev.bin (Ev.item (Ev.ownItem (Ev.neg Ev.cint) (by decide) (by decide) last_item last_get) Ev.cint item0) (Ev.name rfl) (.subI _ _)) Ev.cint (.subI _ _)) (Or.inl rfl) (Or.inl (by decide)) rfl ?_)
    refine Exs.cons (Ex.ite_f (Tst.cmp (Ev.bin (Ev.name rfl) (Ev.name rfl) (.subI _ _)) Ev.cint (lt_f (by have := hok.1; omega))) (Exs.nil ?_))
    refine Exs.cons (Ex.append (Ev.tuple (Es.cons (Ev.bin (Ev.name rfl) (Ev.name rfl) (.subI _ _)) (Es.cons (Ev.name rfl) Es.nil))) (by simp [rng]; unfold lim; omega) (Exs.nil ⟨rfl, ⟨_, _, _, rfl⟩, dn ++ [(lo, hi)], lo - g - 2 - s, lo - g - 2, ?_, hok.2, ?_, ?_⟩))
    · simp [rng, pr]
    · rw [← heq]; simp [rangesF]
    · simp at hn ⊢; omega
  · rintro ρ fo st' ⟨rfl, ⟨x, y, z, rfl⟩, dn, lo, hi, rfl, hok, heq, hn⟩
    refine Exs.cons (Ex.retOwn (Ev.name rfl) ⟨?_, rfl⟩)
    rw [← heq]
    simp [rng, rangesF]
end
end Mine
end
section
open PySem PyProof.Rows
set_option linter.unusedVariables false
set_option linter.unusedSimpArgs false
namespace Mine
section
variable {σ : Type} {C : Cx σ} {ρ : Ro} {fo : Option (List Dt)} {st st1 : σ} {e : Expr} {b b' : Bool} {d d' : Dt} {ds es : List Dt} {P : Post σ}
theorem It.as (h : It C ρ fo st e ds st1) (q : ds = es) : It C ρ fo st e es st1 := q ▸ h
theorem Tst.not_t {x : Expr} {pos : Pos} (he : Tst C ρ fo st x false st1) : Tst C ρ fo st (.UnaryOp .Not x pos) true st1 := Tst.not he
theorem Tst.not_f {x : Expr} {pos : Pos} (he : Tst C ρ fo st x true st1) : Tst C ρ fo st (.UnaryOp .Not x pos) false st1 := Tst.not he
theorem Wd.callee (W : Wd C) {n : Str} {sc : Scope} {L a : Addr} {cd : Value} : Wd (C.callee n sc L a cd) := ⟨W.nl, W.fn, W.c1, W.c2, W.c3, W.c4, W.rf⟩
theorem Wd.comp (W : Wd C) {sc : Scope} {L : Addr} : Wd (C.comp sc L) := ⟨W.nl, W.fn, W.c1, W.c2, W.c3, W.c4, W.rf⟩
theorem cut1 {d : Dt} {r : List Dt} : cut (d :: r) (some 1) none = r := by
  simp only [cut, Option.elim]
  have : clipAt (d :: r).length 1 = 1 := by simp [clipAt]; omega
  rw [this]; simp
noncomputable def gapsL (b : Int) : List (Int × Int) → List (Int × Int)
  | [] => []
  | (l, h) :: r => (b - h - 2, h - l) :: gapsL l r
theorem fn_gaps_of (W : Wd C) (hl : 1 ≤ C.lv) (lo hi : Int) (rs : List (Int × Int)) (hlen : rs.length ≤ 1000) :
    FnOk C "gaps_of" [.lst (rng ((lo, hi) :: rs))] st (.tup [.int hi, .int (hi - lo), .lst (rng (gapsL lo rs))]) st := by
  refine FnOk.of_body (i := 15) (ps := [("ranges", .lst (rng ((lo, hi) :: rs)))]) W rfl (by decide) hl rfl (fun pm cd doc vs h => by match vs, h with | [a], _ => rfl) fun L' a cd => ?_
  refine Exs.cons (Ex.assignT (Ev.item (Ev.name rfl) Ev.cint itemL0) (.cons (Or.inl rfl) (Or.inr rfl) rfl (.cons (Or.inl rfl) (Or.inr rfl) rfl .nil)) ?_)
  refine Exs.cons (Ex.ownPar2 (Sim.name rfl (by decide)) (Or.inl rfl) (by decide) rfl (Or.inl rfl) rfl ?_)
  refine Exs.cons (Ex.forM (f := pr) (xs := rs) (It.as (It.list (Ev.sliceL (Ev.name rfl) (Eo.some Ev.cint) Eo.none)) cut1) (fun r ρ fo st' => st' = st ∧ ∃ b x, (ρ = ([("ranges", some (.lst (rng ((lo, hi) :: rs)))), ("low", some (.int lo)), ("high", some (.int hi)), ("found", none), ("before", some (.int b)), ("one", x)] : Ro)) ∧
    ∃ dn, fo = some (rng dn) ∧ dn ++ gapsL b r = gapsL lo rs ∧ dn.length + r.length = rs.length) ⟨rfl, lo, none, rfl, [], rfl, rfl, by simp⟩ ?_ ?_)
  · rintro ⟨l, h⟩ r ρ fo st' ⟨rfl, b, x, rfl, dn, rfl, heq, hn⟩
    refine ⟨_, .name (Or.inl rfl) (Or.inl (by decide)) rfl, ?_⟩
    refine Exs.cons (Ex.append (Ev.tuple (Es.cons (Ev.bin (Ev.bin (Ev.name rfl) (Ev.item (Ev.name rfl) Ev.cint item1) (.subI _ _)) Ev.cint (.subI _ _)) (Es.cons (Ev.bin (Ev.item (Ev.name rfl) Ev.cint item1) (Ev.item (Ev.name rfl) Ev.cint item0) (.subI _ _)) Es.nil))) (by simp at hn; simp [rng]; unfold lim; omega) ?_)
    refine Exs.cons (Ex.assign (Ev.item (Ev.name rfl) Ev.cint item0) (Or.inl rfl) (Or.inl (by decide)) rfl (Exs.nil ⟨rfl, l, _, rfl, dn ++ [(b - h - 2, h - l)], by simp [rng, pr], ?_, ?_⟩))
    · rw [← heq]; simp [gapsL]
    · simp at hn ⊢; omega
  · rintro ρ fo st' ⟨rfl, b, x, rfl, dn, rfl, heq, hn⟩
    refine Exs.cons (Ex.retOwn (Ev.tuple (Es.cons (Ev.name rfl) (Es.cons (Ev.bin (Ev.name rfl) (Ev.name rfl) (.subI _ _)) (Es.cons (Ev.name rfl) Es.nil)))) ⟨?_, rfl⟩)
    rw [← heq]
    simp [rng, gapsL]
noncomputable def addGo (low high : Int) (isIn : Bool) : List (Int × Int) → List (Int × Int)
  | [] => if isIn then [] else [(low, high)]
  | (a, b) :: r => if a > high + 1 then (a, b) :: addGo low high isIn r else if b < low - 1 then (if isIn then (a, b) :: addGo low high true r else (low, high) :: (a, b) :: addGo low high true r)
    else addGo (if a < low then a else low) (if b > high then b else high) isIn r
theorem fn_add_number (W : Wd C) (hl : 1 ≤ C.lv) (n : Int) (rs : List (Int × Int)) (hlen : rs.length ≤ 1000) :
    FnOk C "add_number" [.lst (rng rs), .int n] st (.lst (rng (addGo n n false rs))) st := by
  refine FnOk.of_body (i := 22) (ps := [("ranges", .lst (rng rs)), ("n", .int n)]) W rfl (by decide) hl rfl (fun pm cd doc vs h => by match vs, h with | [a, b], _ => rfl) fun L' a cd => ?_
  refine Exs.cons (Ex.ownPar4 (Sim.name rfl (by decide)) (Sim.name rfl (by decide)) Sim.cbool (Or.inl rfl) (Or.inl rfl) (Or.inl rfl) (Or.inl rfl) (by decide) rfl rfl rfl rfl ?_)
  refine Exs.cons (Ex.forM (f := pr) (xs := rs) (It.list (Ev.name rfl)) (fun r ρ fo st' => st' = st ∧ ∃ low high isIn x, (ρ = ([("ranges", some (.lst (rng rs))), ("n", some (.int n)), ("low", some (.int low)), ("high", some (.int high)), ("found", none), ("is_in", some (.bool isIn)), ("one", x)] : Ro)) ∧
    ∃ dn, fo = some (rng dn) ∧ dn ++ addGo low high isIn r = addGo n n false rs ∧ dn.length + 2 * r.length ≤ 2 * rs.length) ⟨rfl, n, n, false, none, rfl, [], rfl, rfl, by simp⟩ ?_ ?_)
  · rintro ⟨l, h⟩ r ρ fo st' ⟨rfl, low, high, isIn, x, rfl, dn, rfl, heq, hn⟩
    refine ⟨_, .name (Or.inl rfl) (Or.inl (by decide)) rfl, ?_⟩
    have hdn : dn.length ≤ 2000 := by simp at hn; omega
    have hb : (rng dn).length < lim ∧ ∀ d, (rng dn ++ [d]).length < lim := ⟨by simp [rng]; unfold lim; omega, fun d => by simp [rng]; unfold lim; omega⟩
    by_cases h1 : l > high + 1
    · refine Exs.cons (Ex.ite_t (Tst.cmp (Ev.item (Ev.name rfl) Ev.cint item0) (Ev.bin (Ev.name rfl) Ev.cint (.addI _ _)) (gt_t h1)) (Exs.cons (Ex.append (Ev.name rfl) hb.1 (Exs.nil (Exs.nil ⟨rfl, _, _, _, _, rfl, dn ++ [(l, h)], by simp [rng, pr], ?_, ?_⟩)))))
      · rw [← heq]; simp [addGo, h1]
      · simp at hn ⊢; omega
    · refine Exs.cons (Ex.ite_f (Tst.cmp (Ev.item (Ev.name rfl) Ev.cint item0) (Ev.bin (Ev.name rfl) Ev.cint (.addI _ _)) (gt_f h1)) ?_)
      by_cases h2 : h < low - 1
      · refine Exs.cons (Ex.ite_t (Tst.cmp (Ev.item (Ev.name rfl) Ev.cint item1) (Ev.bin (Ev.name rfl) Ev.cint (.subI _ _)) (lt_t h2)) ?_)
        cases isIn with
        | true =>
          refine Exs.cons (Ex.ite_f (Tst.not_f (Tst.plain (Ev.name rfl))) (Exs.nil ?_))
          refine Exs.cons (Ex.append (Ev.name rfl) hb.1 (Exs.nil (Exs.nil (Exs.nil ⟨rfl, _, _, _, _, rfl, dn ++ [(l, h)], by simp [rng, pr], ?_, ?_⟩))))
          · rw [← heq]; simp [addGo, h1, h2]
          · simp at hn ⊢; omega
        | false =>
          refine Exs.cons (Ex.ite_t (Tst.not_t (Tst.plain (Ev.name rfl))) (Exs.cons (Ex.append (Ev.tuple (Es.cons (Ev.name rfl) (Es.cons (Ev.name rfl) Es.nil))) hb.1 (Exs.cons (Ex.assign Ev.cbool (Or.inl rfl) (Or.inl (by decide)) rfl (Exs.nil ?_))))))
          refine Exs.cons (Ex.append (Ev.name rfl) (hb.2 _) (Exs.nil (Exs.nil (Exs.nil ⟨rfl, _, _, _, _, rfl, dn ++ [(low, high), (l, h)], by simp [rng, pr], ?_, ?_⟩))))
          · rw [← heq]; simp [addGo, h1, h2]
          · simp at hn ⊢; omega
      · refine Exs.cons (Ex.ite_f (Tst.cmp (Ev.item (Ev.name rfl) Ev.cint item1) (Ev.bin (Ev.name rfl) Ev.cint (.subI _ _)) (lt_f h2)) ?_)
        refine Exs.cons (Ex.assignS (names := ["low", "high"]) (Ev.tuple (Es.cons (Ev.callB rfl (Es.cons (Ev.name rfl) (Es.cons (Ev.item (Ev.name rfl) Ev.cint item0) Es.nil)) (.min2 _ _)) (Es.cons (Ev.callB rfl (Es.cons (Ev.name rfl) (Es.cons (Ev.item (Ev.name rfl) Ev.cint item1) Es.nil)) (.max2 _ _)) Es.nil)))
          (.cons (Or.inl rfl) (Or.inl (by decide)) rfl (.cons (Or.inl rfl) (Or.inl (by decide)) rfl .nil)) (Exs.nil (Exs.nil (Exs.nil ⟨rfl, _, _, _, _, rfl, dn, rfl, ?_, ?_⟩))))
        · rw [← heq]; simp [addGo, h1, h2]
        · simp at hn ⊢; omega
  · rintro ρ fo st' ⟨rfl, low, high, isIn, x, rfl, dn, rfl, heq, hn⟩
    cases isIn with
    | true =>
      refine Exs.cons (Ex.retOwn (Ev.ite_t (Tst.plain (Ev.name rfl)) (Ev.name rfl)) ⟨?_, rfl⟩)
      rw [← heq]
      simp [addGo]
    | false =>
      refine Exs.cons (Ex.retOwn (Ev.ite_f (Tst.plain (Ev.name rfl)) (Ev.bin (Ev.name rfl) (Ev.list (Es.cons (Ev.tuple (Es.cons (Ev.name rfl) (Es.cons (Ev.name rfl) Es.nil))) Es.nil)) (.addL _ _ (by simp at hn; simp [rng]; unfold lim; omega)))) ⟨?_, rfl⟩)
      rw [← heq]
      simp [addGo, rng, pr]
end
end Mine
end
section
open PySem PyProof.Rows
set_option linter.unusedVariables false
set_option linter.unusedSimpArgs false
namespace Mine
section
variable {σ : Type} {C : Cx σ} {ρ : Ro} {fo : Option (List Dt)} {st st1 : σ} {e : Expr} {b b' : Bool} {d d' : Dt} {ds es : List Dt} {P : Post σ}
theorem unbools_map {α : Type} (f : α → Bool) : ∀ xs : List α, unbools (xs.map fun x => Dt.bool (f x)) = some (xs.map f)
  | [] => rfl
  | x :: r => by show (unbools (r.map _)).map (f x :: ·) = _; rw [unbools_map f r]; rfl
theorem unints_map {α : Type} (f : α → Int) : ∀ xs : List α, unints (xs.map fun x => Dt.int (f x)) = some (xs.map f)
  | [] => rfl
  | x :: r => by show (unints (r.map _)).map (f x :: ·) = _; rw [unints_map f r]; rfl
theorem Ev.cmp2 {l r r' : Expr} {pos : Pos} {x y z : Int} (hl : Ev C ρ fo st l (.int x) st) (hr : Ev C ρ fo st r (.int y) st) (hr' : Ev C ρ fo st r' (.int z) st) (hm : lastMarks [.LtE, .LtE] [r, r'] = false := by rfl) :
    Ev C ρ fo st (.Compare l [.LtE, .LtE] [r, r'] pos) (.bool (decide (x ≤ y) && decide (y ≤ z))) st := by
  by_cases h : x ≤ y
  · exact Ev.as (Ev.cmp2t hl hr (le_t h) hr' (.leI _ _) hm) (by simp [h])
  · exact Ev.as (Ev.cmp2f hl hr (le_f h) hm) (by simp [h])
noncomputable def hasN (rs : List (Int × Int)) (n : Int) : Bool := rs.any fun p => decide (p.1 ≤ n) && decide (n ≤ p.2)
theorem fn_has_number (W : Wd C) (hl : 1 ≤ C.lv) (n : Int) (rs : List (Int × Int)) : FnOk C "has_number" [.lst (rng rs), .int n] st (.bool (hasN rs n)) st := by
  refine FnOk.of_body (i := 23) (ps := [("ranges", .lst (rng rs)), ("n", .int n)]) W rfl (by decide) hl rfl (fun pm cd doc vs h => by match vs, h with | [a, b], _ => rfl) fun L' a cd => ?_
  refine Exs.cons (Ex.ret (st1 := st) (Ev.as (Ev.callB rfl (Es.cons (Ev.comp (It.list (Ev.name rfl)) (Cmp.map (f := pr) (g := fun p => .bool (decide (p.1 ≤ n) && decide (n ≤ p.2))) fun p hp L' => ⟨_, .tup (.cons (Or.inl rfl) (Or.inr rfl) rfl (.cons (Or.inl rfl) (Or.inr rfl) rfl .nil)), st, Tif.nil, Ev.cmp2 (Ev.name rfl) (Ev.name rfl) (Ev.name rfl)⟩) fun x c h => PySem.mem_of_lookup h) Es.nil) (.anyL _ _ (unbools_map _ _))) ?_) ⟨rfl, rfl⟩)
  simp [hasN, List.any_map, Function.comp_def]
theorem fn_count_of (W : Wd C) (hl : 1 ≤ C.lv) (rs : List (Int × Int)) : FnOk C "count_of" [.lst (rng rs)] st (.int (rs.map fun p => p.2 - p.1 + 1).sum) st := by
  refine FnOk.of_body (i := 25) (ps := [("ranges", .lst (rng rs))]) W rfl (by decide) hl rfl (fun pm cd doc vs h => by match vs, h with | [a], _ => rfl) fun L' a cd => ?_
  exact Exs.cons (Ex.ret (st1 := st) (Ev.callB rfl (Es.cons (Ev.comp (It.list (Ev.name rfl)) (Cmp.map (f := pr) (g := fun p => .int (p.2 - p.1 + 1)) fun p hp L' => ⟨_, .tup (.cons (Or.inl rfl) (Or.inr rfl) rfl (.cons (Or.inl rfl) (Or.inr rfl) rfl .nil)), st, Tif.nil, Ev.bin (Ev.bin (Ev.name rfl) (Ev.name rfl) (.subI _ _)) Ev.cint (.addI _ _)⟩) fun x c h => PySem.mem_of_lookup h) Es.nil) (.sumL _ _ (unints_map _ _))) ⟨rfl, rfl⟩)
noncomputable def pruneL (low : Int) (rs : List (Int × Int)) : List (Int × Int) := rs.filterMap fun p => if p.2 ≥ low then some (if low > p.1 then low else p.1, p.2) else none
theorem rng_filterMap {α : Type} (f : α → Option (Int × Int)) (xs : List α) : rng (xs.filterMap f) = xs.filterMap fun x => (f x).map pr := by
  rw [rng, List.map_filterMap]
theorem fn_prune (W : Wd C) (hl : 1 ≤ C.lv) (low : Int) (rs : List (Int × Int)) : FnOk C "prune" [.lst (rng rs), .int low] st (.lst (rng (pruneL low rs))) st := by
  refine FnOk.of_body (i := 28) (ps := [("ranges", .lst (rng rs)), ("low", .int low)]) W rfl (by decide) hl rfl (fun pm cd doc vs h => by match vs, h with | [a, b], _ => rfl) fun L' a cd => ?_
  refine Exs.cons (Ex.ret (st1 := st) (Ev.as (Ev.comp (It.list (Ev.name rfl)) (Cmp.filt (f := pr) (g := fun p => (if p.2 ≥ low then some (if low > p.1 then low else p.1, p.2) else none).map pr) fun p hp L' => ⟨_, .name (Or.inl rfl) (Or.inr rfl) rfl, ?_⟩) fun x c h => PySem.mem_of_lookup h) ?_) ⟨rfl, rfl⟩)
  · by_cases h : p.2 ≥ low
    · rw [if_pos h]
      exact ⟨st, Tif.one (Tst.cmp (Ev.item (Ev.name rfl) Ev.cint item1) (Ev.name rfl) (ge_t h)), Ev.tuple (Es.cons (Ev.callB rfl (Es.cons (Ev.item (Ev.name rfl) Ev.cint item0) (Es.cons (Ev.name rfl) Es.nil)) (.max2 _ _)) (Es.cons (Ev.item (Ev.name rfl) Ev.cint item1) Es.nil))⟩
    · rw [if_neg h]
      exact Tif.one (Tst.cmp (Ev.item (Ev.name rfl) Ev.cint item1) (Ev.name rfl) (ge_f h))
  · rw [pruneL, rng_filterMap]
theorem filt_some {α β : Type} (p : α → Bool) (f : α → β) (xs : List α) : xs.filterMap (fun x => if p x = true then some (f x) else none) = (xs.filter p).map f := by
  induction xs with
  | nil => rfl
  | cons x r ih =>
    rw [List.filterMap_cons, List.filter_cons]
    cases p x <;> simp [ih]
theorem fn_newly_acked (W : Wd C) (hl : 2 ≤ C.lv) (ns ms : List Int) (rs : List (Int × Int)) (hlen : ns.length < 64) (hp : ms.Perm (ns.filter (hasN rs))) (hs : ms.Pairwise (· ≤ ·)) :
    FnOk C "newly_acked" [.lst (dints ns), .lst (rng rs)] st (.lst (dints ms)) st := by
  refine FnOk.of_body (i := 27) (ps := [("sent_numbers", .lst (dints ns)), ("ranges", .lst (rng rs))]) W rfl (by decide) (by omega) rfl (fun pm cd doc vs h => by match vs, h with | [a, b], _ => rfl) fun L' a cd => ?_
  refine Exs.cons (Ex.ret (st1 := st) (Ev.callB rfl (Es.cons (Ev.comp (It.list (Ev.name rfl)) (Cmp.filt (f := Dt.int) (g := fun n => if hasN rs n = true then some (Dt.int n) else none) fun n hp L' => ⟨_, .name (Or.inl rfl) (Or.inr rfl) rfl, ?_⟩) fun x c h => PySem.mem_of_lookup h) Es.nil)
    (.sortL _ (ns.filter (hasN rs)) ms ?_ (Nat.lt_of_le_of_lt (List.length_filter_le _ _) hlen) hp hs)) ⟨rfl, rfl⟩)
  · have call : ∀ {ρ' : Ro} {x y : Expr}, True := trivial
    cases h : hasN rs n with
    | true =>
      exact ⟨st, Tif.one (Tst.as (Tst.plain (Ev.callF (Es.cons (Ev.name rfl) (Es.cons (Ev.name rfl) Es.nil)) (fn_has_number W.callee.comp (Nat.le_sub_one_of_lt hl) n rs))) h), Ev.name rfl⟩
    | false =>
      exact Tif.one (Tst.as (Tst.plain (Ev.callF (Es.cons (Ev.name rfl) (Es.cons (Ev.name rfl) Es.nil)) (fn_has_number W.callee.comp (Nat.le_sub_one_of_lt hl) n rs))) h)
  · rw [filt_some]
    exact unints_dints _
noncomputable def lrF (lo hi : Int) : List Int → List (Int × Int)
  | [] => [(lo, hi)]
  | x :: r => if lo = x + 1 then lrF x hi r else (lo, hi) :: lrF x x r
noncomputable def lrs : List Int → List (Int × Int)
  | [] => []
  | x :: r => lrF x x r
theorem kqd_pr (n : Nat) (p : Int × Int) : W.kqdOk (n + 1) (toDat (pr p)) = true := by
  simp [pr, toDat, toDats, W.kqdOk]
theorem okD_rng (rs : List (Int × Int)) : okD (.lst (rng rs)) := by
  unfold okD
  rw [toDat, W.kqdOk, List.all_eq_true, toDats_eq, rng, List.map_map]
  intro d hd
  obtain ⟨p, _, rfl⟩ := List.mem_map.mp hd
  exact kqd_pr _ _
theorem okD_dints (ns : List Int) : okD (.lst (dints ns)) := by
  unfold okD
  rw [toDat, W.kqdOk, List.all_eq_true, toDats_eq, dints, List.map_map]
  intro d hd
  obtain ⟨p, _, rfl⟩ := List.mem_map.mp hd
  rfl
theorem set_last {α : Type} (l : List α) (a b : α) : (l ++ [a]).set ((l ++ [a]).length - 1) b = l ++ [b] := by
  simp
theorem fn_law_ranges (W : Wd C) (hl : 1 ≤ C.lv) (ns ms : List Int) (hlen : ns.length < 64) (hp : ms.Perm ns) (hs : ms.Pairwise (· ≤ ·)) :
    FnOk C "_law_ranges" [.lst (dints ns)] st (.lst (rng (lrs ms.reverse))) st := by
  refine FnOk.of_body (i := 32) (ps := [("lot", .lst (dints ns))]) W rfl (by decide) hl rfl (fun pm cd doc vs h => by match vs, h with | [a], _ => rfl) fun L' a cd => ?_
  refine Exs.cons (Ex.own Es.nil (Or.inl rfl) (Nat.zero_le _) rfl ?_)
  have hms : ms.length < 64 := by rw [hp.length_eq]; exact hlen
  refine Exs.cons (Ex.forM (f := Dt.int) (xs := ms.reverse) (It.as (It.list (Ev.rev (Ev.callB rfl (Es.cons (Ev.name rfl) Es.nil) (.sortL _ ns ms (unints_dints _) hlen hp hs)) (Ev.neg Ev.cint))) (by rw [dints, List.map_reverse])) (fun r ρ fo st' => st' = st ∧ ∃ x, (ρ = ([("lot", some (.lst (dints ns))), ("found", none), ("number", x)] : Ro)) ∧
    ((fo = some [] ∧ r = ms.reverse) ∨ ∃ dn lo hi, fo = some (rng (dn ++ [(lo, hi)])) ∧ dn ++ lrF lo hi r = lrs ms.reverse ∧ dn.length + 1 + r.length ≤ ms.length)) ⟨rfl, none, rfl, Or.inl ⟨rfl, rfl⟩⟩ ?_ ?_)
  · rintro n r ρ fo st' ⟨rfl, x, rfl, ⟨rfl, hr⟩ | ⟨dn, lo, hi, rfl, heq, hn⟩⟩
    · refine ⟨_, .name (Or.inl rfl) (Or.inl (by decide)) rfl, ?_⟩
      refine Exs.cons (Ex.ite_f (Tst.and_f (Tst.ownNe okD_nil)) (Exs.cons (Ex.append (Ev.tuple (Es.cons (Ev.name rfl) (Es.cons (Ev.name rfl) Es.nil))) (Nat.le_of_ble_eq_true rfl) (Exs.nil (Exs.nil ⟨rfl, _, rfl, Or.inr ⟨[], n, n, rfl, ?_, ?_⟩⟩)))))
      · rw [← hr]; rfl
      · have := congrArg List.length hr
        simp at this ⊢; omega
    · refine ⟨_, .name (Or.inl rfl) (Or.inl (by decide)) rfl, ?_⟩
      have e : rng (dn ++ [(lo, hi)]) = rng dn ++ [pr (lo, hi)] := by simp [rng]
      have hne : (!(rng (dn ++ [(lo, hi)])).isEmpty) = true := by rw [e]; simp
      rw [e] at hne ⊢
      by_cases h1 : lo = n + 1
      · refine Exs.cons (Ex.ite_t (Tst.and_t (Tst.as (Tst.ownNe (e ▸ okD_rng _)) hne) (Tst.and_t (Tst.cmp (Ev.item (Ev.ownItem (Ev.neg Ev.cint) (by decide) (by decide) last_item last_get) Ev.cint item0) (Ev.bin (Ev.name rfl) Ev.cint (.addI _ _)) (eq_t h1)) Tst.and_0)) ?_)
        refine Exs.cons (Ex.setLast (Ev.tuple (Es.cons (Ev.name rfl) (Es.cons (Ev.item (Ev.ownItem (Ev.neg Ev.cint) (by decide) (by decide) last_item last_get) Ev.cint item1) Es.nil))) (Ev.neg Ev.cint) (by simp) (Exs.nil (Exs.nil ⟨rfl, _, rfl, Or.inr ⟨dn, n, hi, ?_, ?_, ?_⟩⟩)))
        · rw [set_last]; simp [rng, pr]
        · rw [← heq]; simp [lrF, h1]
        · simp at hn; omega
      · refine Exs.cons (Ex.ite_f (Tst.and_t (Tst.as (Tst.ownNe (e ▸ okD_rng _)) hne) (Tst.and_f (Tst.cmp (Ev.item (Ev.ownItem (Ev.neg Ev.cint) (by decide) (by decide) last_item last_get) Ev.cint item0) (Ev.bin (Ev.name rfl) Ev.cint (.addI _ _)) (eq_f h1)))) ?_)
        refine Exs.cons (Ex.append (Ev.tuple (Es.cons (Ev.name rfl) (Es.cons (Ev.name rfl) Es.nil))) (by simp [rng]; simp at hn; unfold lim; omega) (Exs.nil (Exs.nil ⟨rfl, _, rfl, Or.inr ⟨dn ++ [(lo, hi)], n, n, ?_, ?_, ?_⟩⟩)))
        · simp [rng, pr]
        · rw [← heq]; simp [lrF, h1]
        · simp at hn ⊢; omega
  · rintro ρ fo st' ⟨rfl, x, rfl, ⟨rfl, hr⟩ | ⟨dn, lo, hi, rfl, heq, hn⟩⟩
    · refine Exs.cons (Ex.retOwn (Ev.name rfl) ⟨?_, rfl⟩)
      rw [← hr]; rfl
    · refine Exs.cons (Ex.retOwn (Ev.name rfl) ⟨?_, rfl⟩)
      rw [← heq]; rfl
end
end Mine
end
section
open PySem PyProof.Rows
set_option linter.unusedVariables false
set_option linter.unusedSimpArgs false
namespace Mine
theorem index_exact {s : Shared} {prog : Program} {w : World} {A : Around} {a : Addr} {o : Obj} {n : Nat} {vs : List Value} {k j : Int} {t : Tok} {Q E : Value → Shared → Prop} (ho : s.heap.get? a = some o) (hc : o.cls = .type "tuple") (hd : o.data = .seq vs.toArray n) (hi : IntsAre vs [1, 2, 4, 8])
    (hk : k = 1 ∧ j = 0 ∨ k = 2 ∧ j = 1 ∨ k = 4 ∧ j = 2) (q : ∀ tk u, Q (.int j u) { s with toks := tk }) : wpAny (model prog w) A (call (.builtin "tuple.index") [.ref a, .int k t]) Q E s := by
  have hT : s.TypeIs (.ref a) "tuple" := ⟨o, ho, hc⟩
  refine wpAny_call_entry PySem.F.slot_tuple_index hT PySem.F.entry_tuple_index ?_ (PySem.F.args_tuple_index_2 _ _)
  unfold Builtin.«tuple.index»
  obtain ⟨u1, u2, u3, u4, rfl⟩ : ∃ u1 u2 u3 u4, vs = [.int 1 u1, .int 2 u2, .int 4 u3, .int 8 u4] := by cases hi with | cons _ _ h => cases h with | cons _ _ h => cases h with | cons _ _ h => cases h with | cons _ _ h => cases h; exact ⟨_, _, _, _, rfl⟩
  rw [show selfAndSome "tuple.index" "index" 1 3 { pos := [Value.ref a, Value.int k t] } = pure (Value.ref a, [Value.int k t]) from rfl]
  refine wpAny_bind (wpAny_pure ?_)
  refine wpAny_bind (wpAny_tupleItemsOf ho hd ?_)
  refine wpAny_bind (wpAny_pure (wpAny_bind (wpAny_pure ?_)))
  dsimp only
  rw [show (min #[Value.int 1 u1, .int 2 u2, .int 4 u3, .int 8 u4].size #[Value.int 1 u1, .int 2 u2, .int 4 u3, .int 8 u4].size) = 4 from rfl]
  simp only [Std.Legacy.Range.forIn_eq_forIn_range', Std.Legacy.Range.size]
  rw [show List.range' 0 ((4 - 0 + 1 - 1) / 1) = [0, 1, 2, 3] from rfl]
  have yes : ∀ {x : Int} {u : Tok} {i : Nat} {α : Type} {k' : ForInStep (Option PySem.Fin × Unit) → Sem α} {Q' : α → Shared → Prop} {E' : Value → Shared → Prop}, x = k →
      (∀ tk u', wpAny (model prog w) A.in1 (k' (.done (some (.done (.ret (.int (i : Int) u'))), ()))) Q' E' { s with toks := tk }) →
      wpAny (model prog w) A.in1 ((do
              let __do_lift ← eqBool (.int x u) (Value.int k t)
              if __do_lift = true then do
                  let __do_lift ← retInt ↑i
                  pure (ForInStep.done (some __do_lift, ()))
                else pure (ForInStep.yield (none, ()))) >>= k') Q' E' s := fun {x u i α k' Q' E'} h1 h2 => by
    refine wpAny_bind (wpAny_bind (wpAny_eqBool_int ?_))
    rw [if_pos (by simpa using h1)]
    refine wpAny_bind ?_
    show wpAny _ _ (mkInt _ >>= fun v => ret v) _ _ s
    exact wpAny_bind (wpAny_mkInt (wpAny_pure (wpAny_pure (h2 _ _))))
  have no : ∀ {x : Int} {u : Tok} {i : Nat} {α : Type} {k' : ForInStep (Option PySem.Fin × Unit) → Sem α} {Q' : α → Shared → Prop} {E' : Value → Shared → Prop}, ¬ x = k →
      wpAny (model prog w) A.in1 (k' (.yield (none, ()))) Q' E' s →
      wpAny (model prog w) A.in1 ((do
              let __do_lift ← eqBool (.int x u) (Value.int k t)
              if __do_lift = true then do
                  let __do_lift ← retInt ↑i
                  pure (ForInStep.done (some __do_lift, ()))
                else pure (ForInStep.yield (none, ()))) >>= k') Q' E' s := fun {x u i α k' Q' E'} h1 h2 => by
    refine wpAny_bind (wpAny_bind (wpAny_eqBool_int ?_))
    rw [if_neg (by simpa using h1)]
    exact wpAny_pure h2
  rcases hk with ⟨rfl, rfl⟩ | ⟨rfl, rfl⟩ | ⟨rfl, rfl⟩
  · refine wpAny_bind ?_
    rw [List.forIn_cons]
    refine yes rfl fun tk u' => ?_
    exact wpAny_pure (wpAny_pure ⟨_, rfl, q _ _⟩)
  · refine wpAny_bind ?_
    rw [List.forIn_cons]
    refine no (by decide) ?_
    dsimp only
    rw [List.forIn_cons]
    refine yes rfl fun tk u' => ?_
    exact wpAny_pure (wpAny_pure ⟨_, rfl, q _ _⟩)
  · refine wpAny_bind ?_
    rw [List.forIn_cons]
    refine no (by decide) ?_
    dsimp only
    rw [List.forIn_cons]
    refine no (by decide) ?_
    dsimp only
    rw [List.forIn_cons]
    refine yes rfl fun tk u' => ?_
    exact wpAny_pure (wpAny_pure ⟨_, rfl, q _ _⟩)
section
variable {σ : Type} {C : Cx σ} {ρ : Ro} {fo : Option (List Dt)} {st st1 st2 : σ} {e : Expr} {b b' : Bool} {d d' : Dt} {ds es : List Dt} {P : Post σ}
theorem Ev.vindex (W : Wd C) {p1 apos cpos : Pos} {e : Expr} {k j : Int} {pl : Sem Bool} (he : Ev C ρ fo st e (.int k) st1) (hk : k = 1 ∧ j = 0 ∨ k = 2 ∧ j = 1 ∨ k = 4 ∧ j = 2) (hn : noStar e = true := by rfl)
    (hg : C.env.kindOf "VARINT_SIZES" = some .globalImplicit := by rfl)
    (hc : eval (.Call (.Attribute (.Name "VARINT_SIZES" p1) "index" apos) [e] [] cpos) C.env = (do
      let ov ← eval (.Name "VARINT_SIZES" p1) C.env
      standAt apos.atName
      let (f, first) ← holding [ov] (getMethod ov "index" pl)
      callWith cpos f first (backTo cpos (starEach [e] C.env)) []) := by rfl) :
    Ev C ρ fo st (.Call (.Attribute (.Name "VARINT_SIZES" p1) "index" apos) [e] [] cpos) (.int j) st1 :=
  fun B mu K₀ fa K s Q E S q => by
    obtain ⟨a, o, vs, n, h1, h2, f2, hd, f3, f5⟩ := W.c4
    refine MethodCall_ (S.globName hg h1 ?_ (by decide)) hc
    have ho := S.gk _ _ h2
    refine getMethod_builtin ⟨_, ho, f2⟩ PySem.F.plainAttrs_tuple PySem.F.slot_tuple_index PySem.F.type_tuple_index (fun a e => by cases e; exact ⟨_, ho, hd⟩) ?_
    refine Calls.callWith_builtin (by rw [starEach_cons hn]; rfl) (evalArgs_ns (by rw [starEach_cons hn]; rfl) ((Es.cons he Es.nil hn) cpos B mu K₀ fa K s _ E S fun us h2' tk2 K2 k2 S2 r2 => ?_))
    obtain ⟨u, ru, rfl⟩ := r2.one'
    obtain ⟨t, rfl⟩ := ru.int_inv
    exact index_exact (s := { s with heap := h2', toks := tk2 }) (S2.gk _ _ h2) f2 f3 f5 hk fun tk u => q _ h2' tk K2 k2 S2 (.int ..)
noncomputable def wholeB (n : Int) : Nat → List UInt8
  | 0 => []
  | k + 1 => wholeB (n / 256) k ++ [UInt8.ofNat (n % 256).toNat]
theorem wholeB_len (n : Int) (k : Nat) : (wholeB n k).length = k := by
  induction k generalizing n with
  | zero => rfl
  | succ k ih => simp [wholeB, ih]
noncomputable def encI (n : Int) : Int := if n < 64 then 0 else if n < 16384 then 1 else 2
noncomputable def encN (n : Int) : Int := Builtin.bitOr (encI n * 2 ^ (8 * vsz n - 2).toNat) n
noncomputable def enc (n : Int) : List UInt8 := wholeB (encN n) (vsz n).toNat
theorem vsz_cases (n : Int) : vsz n = 1 ∧ encI n = 0 ∨ vsz n = 2 ∧ encI n = 1 ∨ vsz n = 4 ∧ encI n = 2 := by
  unfold vsz encI
  split
  · exact Or.inl ⟨rfl, rfl⟩
  · split
    · exact Or.inr (Or.inl ⟨rfl, rfl⟩)
    · exact Or.inr (Or.inr ⟨rfl, rfl⟩)
end
end Mine
end
section
open PySem PyProof.Rows
set_option linter.unusedVariables false
set_option linter.unusedSimpArgs false
namespace Mine
theorem bitAnd_nat (x y : Nat) : Builtin.bitAnd (x : Int) (y : Int) = ((x &&& y : Nat) : Int) := by
  unfold Builtin.bitAnd
  simp
theorem bitOr_nat (x y : Nat) : Builtin.bitOr (x : Int) (y : Int) = ((x ||| y : Nat) : Int) := by
  unfold Builtin.bitOr
  have e1 : Builtin.bitNot (x : Int) = -(x : Int) - 1 := by unfold Builtin.bitNot; omega
  have e2 : Builtin.bitNot (y : Int) = -(y : Int) - 1 := by unfold Builtin.bitNot; omega
  have n1 : Builtin.bitNot (Builtin.bitNot (x : Int)) = x := by unfold Builtin.bitNot; omega
  have n2 : Builtin.bitNot (Builtin.bitNot (y : Int)) = y := by unfold Builtin.bitNot; omega
  unfold Builtin.bitAnd
  rw [n1, n2, e1, e2, decide_eq_false (by omega : ¬ (0 : Int) ≤ -(x : Int) - 1), decide_eq_false (by omega : ¬ (0 : Int) ≤ -(y : Int) - 1)]
  simp [Builtin.bitNot]; omega
theorem bitOr_add {i : Nat} {a n : Nat} (h : n < 2 ^ i) : Builtin.bitOr ((a : Int) * 2 ^ i) (n : Int) = (a : Int) * 2 ^ i + n := by
  have e : ((a : Int) * 2 ^ i) = ((2 ^ i * a : Nat) : Int) := by simp [Int.mul_comm]
  rw [e, bitOr_nat, ← Nat.two_pow_add_eq_or_of_lt h]
  simp
theorem encN_eq (n : Int) (h0 : 0 ≤ n) (h1 : n < 1073741824) : encN n = encI n * 2 ^ (8 * vsz n - 2).toNat + n := by
  obtain ⟨k, rfl⟩ := Int.eq_ofNat_of_zero_le h0
  unfold encN encI vsz
  by_cases a : (k : Int) < 64
  · simp only [if_pos a]
    exact bitOr_add (i := 6) (a := 0) (by omega)
  · by_cases b : (k : Int) < 16384
    · simp only [if_neg a, if_pos b]
      exact bitOr_add (i := 14) (a := 1) (by omega)
    · simp only [if_neg a, if_neg b]
      exact bitOr_add (i := 30) (a := 2) (by omega)
theorem enc_parts (n : Int) (h0 : 0 ≤ n) (h1 : n < 1073741824) :
    (vsz n = 1 ∧ encI n = 0 ∧ encN n = n ∧ n < 64) ∨ (vsz n = 2 ∧ encI n = 1 ∧ encN n = 16384 + n ∧ n < 16384) ∨ (vsz n = 4 ∧ encI n = 2 ∧ encN n = 2147483648 + n) := by
  have e := encN_eq n h0 h1
  by_cases a : n < 64
  · have e1 : vsz n = 1 := by unfold vsz; rw [if_pos a]
    have e2 : encI n = 0 := by unfold encI; rw [if_pos a]
    rw [e1, e2] at e
    exact Or.inl ⟨e1, e2, by rw [e]; simp, a⟩
  · by_cases b : n < 16384
    · have e1 : vsz n = 2 := by unfold vsz; rw [if_neg a, if_pos b]
      have e2 : encI n = 1 := by unfold encI; rw [if_neg a, if_pos b]
      rw [e1, e2] at e
      exact Or.inr (Or.inl ⟨e1, e2, by rw [e]; rfl, b⟩)
    · have e1 : vsz n = 4 := by unfold vsz; rw [if_neg a, if_neg b]
      have e2 : encI n = 2 := by unfold encI; rw [if_neg a, if_neg b]
      rw [e1, e2] at e
      exact Or.inr (Or.inr ⟨e1, e2, by rw [e]; rfl⟩)
noncomputable def wval (l : List UInt8) : Int := l.foldl (fun f c => f * 256 + (c.toNat : Int)) 0
theorem wval_snoc (l : List UInt8) (c : UInt8) : wval (l ++ [c]) = wval l * 256 + (c.toNat : Int) := by simp [wval]
theorem u8 (n : Int) (h0 : 0 ≤ n) (h1 : n < 256) : ((UInt8.ofNat n.toNat).toNat : Int) = n := by
  rw [UInt8.toNat_ofNat_of_lt' (by show n.toNat < 256; omega)]
  omega
theorem wval_wholeB (k : Nat) : ∀ n : Int, 0 ≤ n → n < 256 ^ k → wval (wholeB n k) = n := by
  induction k with
  | zero => intro n h0 h1; simp at h1; simp [wholeB, wval]; omega
  | succ k ih =>
    intro n h0 h1
    have hp : (256 : Int) ^ (k + 1) = 256 * 256 ^ k := by rw [Int.pow_succ, Int.mul_comm]
    rw [hp] at h1
    rw [wholeB, wval_snoc, ih (n / 256) (by omega) (by omega), u8 _ (by omega) (by omega)]
    omega
theorem encN_okP (n : Int) (h0 : 0 ≤ n) (h1 : n < 1073741824) : 0 ≤ encN n ∧ encN n < 256 ^ (vsz n).toNat := by
  rcases enc_parts n h0 h1 with ⟨a, b, c, d⟩ | ⟨a, b, c, d⟩ | ⟨a, b, c⟩ <;> rw [a, c]
  · exact ⟨h0, by show n < 256; omega⟩
  · exact ⟨by omega, by show _ < 65536; omega⟩
  · exact ⟨by omega, by show _ < 4294967296; omega⟩
theorem enc_len (n : Int) : (enc n).length = (vsz n).toNat := wholeB_len _ _
theorem wval_enc (n : Int) (h0 : 0 ≤ n) (h1 : n < 1073741824) : wval (enc n) = encN n := wval_wholeB _ _ (encN_okP n h0 h1).1 (encN_okP n h0 h1).2
theorem bitAnd_mask (x : Int) (h : 0 ≤ x) (i : Nat) : Builtin.bitAnd x (2 ^ i - 1) = x % 2 ^ i := by
  obtain ⟨k, rfl⟩ := Int.eq_ofNat_of_zero_le h
  have hp : 0 < 2 ^ i := Nat.two_pow_pos i
  have e : (2 ^ i - 1 : Int) = ((2 ^ i - 1 : Nat) : Int) := by rw [Int.ofNat_sub hp]; simp
  rw [e, bitAnd_nat, Nat.and_two_pow_sub_one_eq_mod]
  simp
theorem enc_back (n : Int) (h0 : 0 ≤ n) (h1 : n < 1073741824) : Builtin.bitAnd (wval (enc n)) (1 * 2 ^ (8 * vsz n - 2).toNat - 1) = n := by
  rw [wval_enc n h0 h1, Int.one_mul, bitAnd_mask _ (encN_okP n h0 h1).1]
  rcases enc_parts n h0 h1 with ⟨a, b, c, d⟩ | ⟨a, b, c, d⟩ | ⟨a, b, c⟩ <;> rw [a, c]
  · show n % 64 = n; omega
  · show (16384 + n) % 16384 = n; omega
  · show (2147483648 + n) % 1073741824 = n; omega
theorem wholeB_head (k : Nat) : ∀ n : Int, 0 ≤ n → n < 256 ^ (k + 1) → ∃ c r, wholeB n (k + 1) = c :: r ∧ (c.toNat : Int) = n / 256 ^ k := by
  induction k with
  | zero => intro n h0 h1; exact ⟨_, [], rfl, by rw [u8 _ (by omega) (by omega)]; simp at h1 ⊢; omega⟩
  | succ k ih =>
    intro n h0 h1
    have hp : (256 : Int) ^ (k + 1 + 1) = 256 * 256 ^ (k + 1) := by rw [Int.pow_succ, Int.mul_comm]
    rw [hp] at h1
    obtain ⟨c, r, e, q⟩ := ih (n / 256) (by omega) (by omega)
    refine ⟨c, r ++ [UInt8.ofNat (n % 256).toNat], by rw [wholeB, e]; rfl, ?_⟩
    rw [q, Int.ediv_ediv_of_nonneg (by omega), Int.pow_succ, Int.mul_comm]
theorem enc_head (n : Int) (h0 : 0 ≤ n) (h1 : n < 1073741824) : ∃ c r, enc n = c :: r ∧ ((c.toNat : Int)).fdiv 64 = encI n := by
  have hk := encN_okP n h0 h1
  have fd : ∀ x : Int, x.fdiv 64 = x / 64 := fun x => Int.fdiv_eq_ediv_of_nonneg x (by omega)
  unfold enc
  rcases enc_parts n h0 h1 with ⟨a, b, c, d⟩ | ⟨a, b, c, d⟩ | ⟨a, b, c⟩ <;> rw [a] at hk ⊢ <;> rw [b]
  · obtain ⟨x, r, e, q⟩ := wholeB_head 0 _ hk.1 hk.2
    refine ⟨x, r, e, ?_⟩
    rw [fd, q, c]; simp; omega
  · obtain ⟨x, r, e, q⟩ := wholeB_head 1 _ hk.1 hk.2
    refine ⟨x, r, e, ?_⟩
    rw [fd, q, c]; show (16384 + n) / 256 / 64 = 1; omega
  · obtain ⟨x, r, e, q⟩ := wholeB_head 3 _ hk.1 hk.2
    refine ⟨x, r, e, ?_⟩
    rw [fd, q, c]; show (2147483648 + n) / 16777216 / 64 = 2; omega
end Mine
end
section
open PySem PyProof.Rows
set_option linter.unusedVariables false
set_option linter.unusedSimpArgs false
namespace Mine
section
variable {σ : Type} {C : Cx σ} {ρ : Ro} {fo : Option (List Dt)} {st st1 st2 : σ} {e : Expr} {b b' : Bool} {d d' : Dt} {ds es : List Dt} {P : Post σ}
theorem CmpR.niT' {x : Int} {ns : List Int} (h : ns.any (· == x) = true) : CmpR .NotIn (.int x) (.tup (dints ns)) false := by
  have := CmpR.niT x _ ns (unints_dints ns)
  rwa [h] at this
theorem fn_get_whole (W : Wd C) (hl : 1 ≤ C.lv) (l : List UInt8) (at' size : Int) (h : at' + size ≤ l.length) : FnOk C "get_whole" [.bytes l, .int at', .int size] st (.int (wval (cut l (some at') (some (at' + size))))) st := by
  refine FnOk.of_body (i := 9) (ps := [("data", .bytes l), ("at", .int at'), ("size", .int size)]) W rfl (by decide) (by omega) rfl (fun pm cd doc vs h => by match vs, h with | [a, b, c], _ => rfl) fun L' a cd => ?_
  refine Exs.cons (Ex.ite_f (Tst.cmp (Ev.bin (Ev.name rfl) (Ev.name rfl) (.addI _ _)) (Ev.callB rfl (Es.cons (Ev.name rfl) Es.nil) (.lenB _)) (gt_f (by omega))) (Exs.nil ?_))
  refine Exs.cons (Ex.assign Ev.cint (Or.inl rfl) (Or.inr rfl) rfl ?_)
  refine Exs.cons (Ex.forM (f := fun c : UInt8 => Dt.int (c.toNat : Int)) (xs := cut l (some at') (some (at' + size))) (It.byt (Ev.sliceB (Ev.name rfl) (Eo.some (Ev.name rfl)) (Eo.some (Ev.bin (Ev.name rfl) (Ev.name rfl) (.addI _ _))))) (fun r ρ fo st' => fo = none ∧ st' = st ∧ ∃ v x, (ρ = ([("data", some (.bytes l)), ("at", some (.int at')), ("size", some (.int size)), ("found", some (.int v)), ("octet", x)] : Ro)) ∧
    r.foldl (fun f c => f * 256 + (c.toNat : Int)) v = wval (cut l (some at') (some (at' + size)))) ⟨rfl, rfl, 0, none, rfl, rfl⟩ ?_ ?_)
  · rintro c r ρ fo st' ⟨rfl, rfl, v, x, rfl, hv⟩
    refine ⟨_, .name (Or.inl rfl) (Or.inr rfl) rfl, ?_⟩
    exact Exs.cons (Ex.assign (Ev.bin (Ev.bin (Ev.name rfl) Ev.cint (.mulI _ _ (Or.inr (by decide)))) (Ev.name rfl) (.addI _ _)) (Or.inl rfl) (Or.inr rfl) rfl (Exs.nil ⟨rfl, rfl, _, _, rfl, hv⟩))
  · rintro ρ fo st' ⟨rfl, rfl, v, x, rfl, hv⟩
    refine Exs.cons (Ex.ret (Ev.name rfl) ⟨?_, rfl⟩)
    rw [← hv]; rfl
theorem cut_mid (a m r : List UInt8) : cut (a ++ (m ++ r)) (some (a.length : Int)) (some ((a.length : Int) + (m.length : Int))) = m := by
  simp only [cut, Option.elim]
  have e1 : clipAt (a ++ (m ++ r)).length (a.length : Int) = a.length := by simp [clipAt]; omega
  have e2 : clipAt (a ++ (m ++ r)).length ((a.length : Int) + (m.length : Int)) = a.length + m.length := by simp [clipAt]; omega
  rw [e1, e2]; simp
theorem fn_get_varint (W : Wd C) (hl : 2 ≤ C.lv) (pre post : List UInt8) (n : Int) (h0 : 0 ≤ n) (h1 : n < 1073741824) :
    FnOk C "get_varint" [.bytes (pre ++ (enc n ++ post)), .int (pre.length : Int)] st (.tup [.int n, .int (((pre ++ enc n).length : Nat) : Int)]) st := by
  refine FnOk.of_body (i := 12) (ps := [("data", .bytes (pre ++ (enc n ++ post))), ("at", .int (pre.length : Int))]) W rfl (by decide) (by omega) rfl (fun pm cd doc vs h => by match vs, h with | [a, b], _ => rfl) fun L' a cd => ?_
  obtain ⟨v, hv1, hv2⟩ := W.vs
  obtain ⟨c, r, e, q⟩ := enc_head n h0 h1
  have hk := enc_parts n h0 h1
  have hlen := enc_len n
  have hvz : ((enc n).length : Int) = vsz n := by rw [hlen]; rcases hk with ⟨a, _⟩ | ⟨a, _⟩ | ⟨a, _⟩ <;> rw [a] <;> rfl
  have hpos : 0 < (enc n).length := by rw [e]; simp
  have hr : 0 ≤ 8 * vsz n - 2 ∧ 8 * vsz n - 2 ≤ 1000 := by rcases hk with ⟨a, _⟩ | ⟨a, _⟩ | ⟨a, _⟩ <;> rw [a] <;> decide
  refine Exs.cons (Ex.ite_f (Tst.cmp (Ev.name rfl) (Ev.callB rfl (Es.cons (Ev.name rfl) Es.nil) (.lenB _)) (ge_f (by simp; omega))) (Exs.nil ?_))
  have hget : ((pre ++ (enc n ++ post)).getD (pre.length : Int).toNat 0) = c := by rw [e]; simp
  have hit : ItemR vsd (.int (encI n)) (.int (vsz n)) := by
    rcases hk with ⟨a, b, _⟩ | ⟨a, b, _⟩ | ⟨a, b, _⟩ <;> rw [a, b]
    · exact .tup _ 0 0 _ (by decide) (by decide) rfl rfl
    · exact .tup _ 1 1 _ (by decide) (by decide) rfl rfl
    · exact .tup _ 2 2 _ (by decide) (by decide) rfl rfl
  have hsh : ((((pre ++ (enc n ++ post)).getD (pre.length : Int).toNat 0).toNat : Int)).fdiv (2 ^ (6 : Int).toNat) = encI n := by rw [hget]; exact q
  have hw := fn_get_whole (st := st) (W.callee (n := "get_varint") (sc := dS 12) (L := L') (a := a) (cd := cd)) (by show 1 ≤ C.lv - 1; omega) (pre ++ (enc n ++ post)) (pre.length : Int) (vsz n) (by simp; omega)
  rw [show cut (pre ++ (enc n ++ post)) (some (pre.length : Int)) (some ((pre.length : Int) + vsz n)) = enc n by rw [← hvz]; exact cut_mid _ _ _] at hw
  refine Exs.cons (Ex.assign (Ev.item (Ev.glob hv1 hv2) (Ev.as (Ev.bin (Ev.item (Ev.name rfl) (Ev.name rfl) (.byt _ _ (by omega) (by simp; omega))) Ev.cint (.shrI _ _ (by decide))) (congrArg Dt.int hsh)) hit) (Or.inl rfl) (Or.inr rfl) rfl ?_)
  refine Exs.cons (Ex.ret (Ev.as (Ev.tuple (Es.cons (Ev.bin (Ev.callF (Es.cons (Ev.name rfl) (Es.cons (Ev.name rfl) (Es.cons (Ev.name rfl) Es.nil))) hw) (Ev.bin (Ev.bin Ev.cint (Ev.bin (Ev.bin Ev.cint (Ev.name rfl) (.mulI _ _ (Or.inl (by decide)))) Ev.cint (.subI _ _)) (.shlI _ _ hr.1 hr.2 (by decide))) Ev.cint (.subI _ _)) (.andI _ _)) (Es.cons (Ev.bin (Ev.name rfl) (Ev.name rfl) (.addI _ _)) Es.nil))) ?_) ⟨rfl, rfl⟩)
  rw [enc_back n h0 h1]
  simp [hvz]
end
end Mine
end
section
open PySem PyProof.Rows
set_option linter.unusedVariables false
set_option linter.unusedSimpArgs false
namespace Mine
noncomputable def sm (n : Int) : Prop := 0 ≤ n ∧ n < 1073741824
theorem enc_len4 (n : Int) : (enc n).length ≤ 4 := by
  rw [enc_len]
  rcases vsz_cases n with ⟨h, _⟩ | ⟨h, _⟩ | ⟨h, _⟩ <;> rw [h] <;> decide
noncomputable def encP (ps : List (Int × Int)) : List UInt8 := ps.flatMap fun p => enc p.1 ++ enc p.2
noncomputable def putR (delay lo hi : Int) (r : List (Int × Int)) : List UInt8 := enc hi ++ enc delay ++ enc (r.length : Int) ++ enc (hi - lo) ++ encP (gapsL lo r)
theorem gapsL_len (r : List (Int × Int)) : ∀ lo, (gapsL lo r).length = r.length := by
  induction r with
  | nil => intro _; rfl
  | cons p r ih => intro lo; simp [gapsL, ih]
section
variable {σ : Type} {C : Cx σ} {ρ : Ro} {fo : Option (List Dt)} {st st1 st2 : σ} {e : Expr} {b b' : Bool} {d d' : Dt} {ds es : List Dt} {P : Post σ}
noncomputable def fitGo (room size many : Int) : List (Int × Int) → Int
  | [] => many
  | (g, l) :: r => if size + (vsz g + vsz l) + vsz many > room then many else fitGo room (size + (vsz g + vsz l)) (many + 1) r
noncomputable def fitR (delay room lo hi : Int) (rs : List (Int × Int)) : List Dt :=
  if vsz hi + vsz delay + vsz (hi - lo) + 1 > room then [] else cut (rng ((lo, hi) :: rs)) none (some (fitGo room (vsz hi + vsz delay + vsz (hi - lo)) 1 (gapsL lo rs)))
theorem fn_fitting (W : Wd C) (hl : 2 ≤ C.lv) (delay room lo hi : Int) (rs : List (Int × Int)) (hlen : rs.length ≤ 1000) (h1 : sm delay) (h2 : sm hi) (h3 : sm (hi - lo)) (hps : ∀ p ∈ gapsL lo rs, sm p.1 ∧ sm p.2) :
    FnOk C "fitting" [.int delay, .lst (rng ((lo, hi) :: rs)), .int room] st (.lst (fitR delay room lo hi rs)) st := by
  refine FnOk.of_body (i := 18) (ps := [("delay", .int delay), ("ranges", .lst (rng ((lo, hi) :: rs))), ("room", .int room)]) W rfl (by decide) (by omega) rfl (fun pm cd doc vs h => by match vs, h with | [a, b, c], _ => rfl) fun L' a cd => ?_
  have hl1 : 1 ≤ C.lv - 1 := by omega
  have vz : ∀ n, sm n → FnOk (C.callee "fitting" (dS 18) L' a cd) "varint_size" [.int n] st (.int (vsz n)) st := fun n h => fn_varint_size W.callee hl1 n h.1 h.2
  refine Exs.cons (Ex.assignT (Ev.callF (Es.cons (Ev.name rfl) Es.nil) (fn_gaps_of W.callee hl1 lo hi rs hlen)) (.cons (Or.inl rfl) (Or.inr rfl) rfl (.cons (Or.inl rfl) (Or.inr rfl) rfl (.cons (Or.inl rfl) (Or.inr rfl) rfl .nil))) ?_)
  refine Exs.cons (Ex.assign (Ev.bin (Ev.bin (Ev.callF (Es.cons (Ev.name rfl) Es.nil) (vz _ h2)) (Ev.callF (Es.cons (Ev.name rfl) Es.nil) (vz _ h1)) (.addI _ _)) (Ev.callF (Es.cons (Ev.name rfl) Es.nil) (vz _ h3)) (.addI _ _)) (Or.inl rfl) (Or.inr rfl) rfl ?_)
  refine Exs.cons (Ex.assignS (names := ["many", "size"]) (Ev.tuple (Es.cons Ev.cint (Es.cons (Ev.name rfl) Es.nil))) (.cons (Or.inl rfl) (Or.inr rfl) rfl (.cons (Or.inl rfl) (Or.inr rfl) rfl .nil)) ?_)
  unfold fitR
  by_cases hr : vsz hi + vsz delay + vsz (hi - lo) + 1 > room
  · rw [if_pos hr]
    exact Exs.cons (Ex.ite_t (Tst.cmp (Ev.bin (Ev.name rfl) Ev.cint (.addI _ _)) (Ev.name rfl) (gt_t hr)) (Exs.cons (Ex.ret (Ev.list Es.nil) ⟨rfl, rfl⟩)))
  · rw [if_neg hr]
    refine Exs.cons (Ex.ite_f (Tst.cmp (Ev.bin (Ev.name rfl) Ev.cint (.addI _ _)) (Ev.name rfl) (gt_f hr)) (Exs.nil ?_))
    refine Exs.cons (Ex.forM (f := pr) (xs := gapsL lo rs) (It.list (Ev.name rfl)) (fun r ρ fo st' => fo = none ∧ st' = st ∧ ∃ m s x y, (ρ = ([("delay", some (.int delay)), ("ranges", some (.lst (rng ((lo, hi) :: rs)))), ("room", some (.int room)), ("largest", some (.int hi)), ("first", some (.int (hi - lo))), ("pairs", some (.lst (rng (gapsL lo rs)))), ("used", some (.int (vsz hi + vsz delay + vsz (hi - lo)))), ("many", some (.int m)), ("size", some (.int s)), ("gap", x), ("length", y)] : Ro)) ∧
      fitGo room s m r = fitGo room (vsz hi + vsz delay + vsz (hi - lo)) 1 (gapsL lo rs) ∧ 1 ≤ m ∧ m + r.length ≤ 1 + rs.length ∧ ∀ p ∈ r, sm p.1 ∧ sm p.2) ⟨rfl, rfl, 1, _, none, none, rfl, rfl, by omega, by rw [gapsL_len]; omega, hps⟩ ?_ ?_)
    · rintro ⟨g, l⟩ r ρ fo st' ⟨rfl, rfl, m, s, x, y, rfl, hv, hm, hb, hq⟩
      have hg := hq (g, l) List.mem_cons_self
      rw [List.length_cons] at hb
      have hsm : sm m := by unfold sm; omega
      refine ⟨_, .tup (.cons (Or.inl rfl) (Or.inr rfl) rfl (.cons (Or.inl rfl) (Or.inr rfl) rfl .nil)), ?_⟩
      refine Exs.cons (Ex.aug rfl (Ev.bin (Ev.callF (Es.cons (Ev.name rfl) Es.nil) (vz _ hg.1)) (Ev.callF (Es.cons (Ev.name rfl) Es.nil) (vz _ hg.2)) (.addI _ _)) (Or.inl rfl) (Or.inr rfl) rfl ?_)
      by_cases hc : s + (vsz g + vsz l) + vsz m > room
      · refine Exs.cons (Ex.ite_t (Tst.cmp (Ev.bin (Ev.name rfl) (Ev.callF (Es.cons (Ev.name rfl) Es.nil) (vz _ hsm)) (.addI _ _)) (Ev.name rfl) (gt_t hc)) (Exs.cons (Ex.brk ?_)))
        refine Exs.cons (Ex.ret (Ev.callB rfl (Es.cons (Ev.sliceL (Ev.name rfl) Eo.none (Eo.some (Ev.name rfl))) Es.nil) (.listL _)) ⟨?_, rfl⟩)
        rw [← hv, fitGo, if_pos hc]
      · refine Exs.cons (Ex.ite_f (Tst.cmp (Ev.bin (Ev.name rfl) (Ev.callF (Es.cons (Ev.name rfl) Es.nil) (vz _ hsm)) (.addI _ _)) (Ev.name rfl) (gt_f hc)) (Exs.nil ?_))
        refine Exs.cons (Ex.aug rfl Ev.cint (Or.inl rfl) (Or.inr rfl) rfl (Exs.nil ⟨rfl, rfl, _, _, _, _, rfl, ?_, by omega, by omega, fun p hp => hq p (List.mem_cons_of_mem _ hp)⟩))
        rw [← hv, fitGo, if_neg hc]
    · rintro ρ fo st' ⟨rfl, rfl, m, s, x, y, rfl, hv, hm, hb, hq⟩
      refine Exs.cons (Ex.ret (Ev.callB rfl (Es.cons (Ev.sliceL (Ev.name rfl) Eo.none (Eo.some (Ev.name rfl))) Es.nil) (.listL _)) ⟨?_, rfl⟩)
      rw [← hv, fitGo]
end
end Mine
end
section
open PySem PyProof.Rows
set_option linter.unusedVariables false
set_option linter.unusedSimpArgs false
namespace Mine
section
variable {σ : Type} {C : Cx σ} {ρ ρ' : Ro} {fo : Option (List Dt)} {st st1 st2 : σ} {e : Expr} {b b' : Bool} {d d' : Dt} {ds es : List Dt} {P : Post σ} {B : Heap} {mu : List Addr} {K₀ : Kn} {fa : Addr} {K : Kn} {h h' : Heap}
theorem St.offs {xs : List Addr} (S : St C B mu K₀ fa ρ fo K st h) (hk : ∀ b o, b ∉ xs → h.get? b = some o → h'.get? b = some o) (hw : ∀ a ∈ xs, K a = none ∧ B.get? a = none) (hn : ∀ a ∈ xs, a ∉ ownL C fa fo ++ C.fp) (hc : ∀ a ∈ xs, ∀ v, ¬ h.IsCell a v) :
    St C B mu K₀ fa ρ fo K st h' := by
  have off : ∀ b ∈ ownL C fa fo ++ C.fp, b ∉ xs := fun b hb hm => hn b hm hb
  have ks : ∀ b, b ∉ xs → (h.get? b).isSome = true → (h'.get? b).isSome = true := fun b hb hx => by
    obtain ⟨o, ho⟩ := Option.isSome_iff_exists.mp hx
    rw [hk b o hb ho]; rfl
  have ck : ∀ c v, h.IsCell c v → h'.IsCell c v := fun c v i => by
    have i' := i
    obtain ⟨o, ho, hd⟩ := i
    exact ⟨o, hk c o (fun z => hc c z v i') ho, hd⟩
  have hL : C.env.locals ∉ xs := off _ (List.mem_append.mpr (.inl St.L_mem))
  obtain ⟨m, hm, hr, hf⟩ := S.fr
  have lk : ∀ x v, Look C m h x v → Look C m h' x v := fun x v l => l.imp id fun ⟨a, c, b, i⟩ => ⟨a, c, b, ck _ _ i⟩
  exact {
    ok := S.ok
    base := fun b o e hb hf' => hk b o (fun z => by rw [(hw b z).2] at e; cases e) (S.base b o e hb hf')
    ex := fun b hb => ks b (fun z => by rw [(hw b z).2] at hb; cases hb) (S.ex b hb)
    kx := S.kx
    kn := fun b o e => hk b o (fun z => by rw [(hw b z).1] at e; cases e) (S.kn b o e)
    top := S.top
    mt := fun b ha => ⟨(S.mt b ha).1, ks b (off b ha) (S.mt b ha).2⟩
    ow := S.ow
    nd := S.nd
    fr := ⟨m, hm.at' fun o e => hk _ o hL e, fun x d e => let ⟨v, l, r⟩ := hr x d e; ⟨v, lk x v l, r⟩, fun ds e => lk _ _ (hf ds e)⟩
    fl := fun ds e => let ⟨vs, n, g, r⟩ := S.fl ds e; ⟨vs, n, hk fa _ (off fa (List.mem_append.mpr (.inl (by subst e; simp [ownL])))) g, r⟩
    ce := fun p hp => let ⟨v, i⟩ := S.ce p hp; ⟨v, ck _ _ i⟩
    sg := S.ok.sgk st _ _ (fun b ha o e => hk b o (off b (List.mem_append.mpr (.inr ha))) e) S.sg }
inductive EInv {σ α : Type} (C : Cx σ) (B : Heap) (mu : List Addr) (K₀ : Kn) (xs : List α) (s : Shared) (K1 : Kn) (it ee l : Addr) (J : Nat → List α → Ro → Option (List Dt) → σ → Prop) : Nat → Shared → Prop
  | mk (i : Nat) (h' : Heap) (tk : Nat) (fa' : Addr) (ρ' : Ro) (fo' : Option (List Dt)) (st' : σ) (K' : Kn) (old : Value) (dn r : List α) (hx : xs = dn ++ r) (hdn : dn.length = i) (kk : KLe K1 K') (k1 : K' it = none) (k2 : K' ee = none) (S' : St C B mu K₀ fa' ρ' fo' K' st' h') (hE : IsEnum h' ee it (i : Int) old)
      (hI : h'.IsListIter it l i) (n1 : it ∉ ownL C fa' fo' ++ C.fp) (n2 : ee ∉ ownL C fa' fo' ++ C.fp) (hJ : J i r ρ' fo' st') : EInv C B mu K₀ xs s K1 it ee l J (xs.length + 1 - i) { s with heap := h', toks := tk }
theorem Ex.forEnum {α : Type} {f : α → Dt} {xs : List α} {xi xv : Str} {pi pv pt pos ep cp : Pos} {k : Nat} {e1 : Expr} {body : List Stmt} (he : Ev C ρ fo st e1 (.lst (xs.map f)) st1) (J : Nat → List α → Ro → Option (List Dt) → σ → Prop) (h0 : J 0 xs ρ fo st1)
    (turn : ∀ i x r ρ fo st, J i (x :: r) ρ fo st → ∃ ρ₁, Binds C fo [.Name xi pi, .Name xv pv] [.int (i : Int), f x] ρ ρ₁ ∧ Exs C ρ₁ fo st body (fun fl ρ' fo' st' => match fl with | .next => J (i + 1) r ρ' fo' st' | .brk => P .next ρ' fo' st' | .ret r => P (.ret r) ρ' fo' st'))
    (done : ∀ i ρ fo st, J i [] ρ fo st → P .next ρ fo st) (hs : noStar e1 = true := by rfl) (hk : C.env.kindOf "enumerate" = some .globalImplicit := by rfl) :
    Ex C ρ fo st (.For (.Tuple [.Name xi pi, .Name xv pv] k pt) (.Call (.Name "enumerate" ep) [e1] [] cp) body [] pos) P :=
  fun B mu K₀ fa K s Q E S q => wpAny_For (wpAny_Call_NameR (S.builtName hk (S.ok.bl "enumerate" (.type "enumerate") rfl).1 (S.ok.bl "enumerate" (.type "enumerate") rfl).2 (PyProof.Rows.callWith_type (by rw [starEach_cons hs]; rfl) (evalArgs_ns (by rw [starEach_cons hs]; rfl) ((Es.cons he Es.nil hs) cp B mu K₀ fa K s _ E S fun us h1 tk1 K1 k1 S1 r1 => by
    obtain ⟨u, ru, rfl⟩ := r1.one'
    obtain ⟨l, o, vs, n, rfl, f1, f2, f3, f4, f5⟩ := ru.lst_inv
    have hl : h1.IsList l vs.toArray := ⟨o, S1.kn _ _ f1, f2, n, f3⟩
    refine call_enumerate_list (s := { s with heap := h1, toks := tk1 }) hl fun h2 he2 hit2 hz2 hk2 => ?_
    dsimp only at he2 hit2 hz2 hk2
    have S2 := S1.keeps hk2
    refine wpAny_pyIter_enum (s := { s with heap := h2, toks := tk1 }) he2 ?_
    generalize hit : h1.objs.size = it at he2 hit2 hz2
    generalize hee : it + 1 = ee at he2
    have itn : h1.get? it = none := hit ▸ size_none h1
    have een : h1.get? ee = none := Heap.get?_none_of_le (by omega)
    obtain ⟨a1, a2, a3⟩ := S1.fresh_out itn
    obtain ⟨b1, b2, b3⟩ := S1.fresh_out een
    have eit : ee ≠ it := by omega
    have lit : l ≠ it := fun z => by have := S1.kn _ _ f1; rw [z, itn] at this; cases this
    have lee : l ≠ ee := fun z => by have := S1.kn _ _ f1; rw [z, een] at this; cases this
    have hL2 : h2.IsList l vs.toArray := ⟨o, S2.kn _ _ f1, f2, n, f3⟩
    have hlen : vs.length = xs.length := by rw [f5.length]; simp
    refine codeAny_forLoop_any (EInv C B mu K₀ xs s K1 it ee l J) ?_ (xs.length + 1)
      (.mk 0 h2 tk1 fa ρ fo st1 K1 .none [] xs rfl rfl (.refl _) a1 b1 S2 he2 hit2 a3 b3 h0)
    rintro n' s' ⟨i, h', tk, fa', ρ', fo', st', K', old, dn, r, hx, hdn, kk, kI1, kI2, S', hE, hI, hn1, hn2, hJ⟩
    have kI : K' it = none ∧ K' ee = none := ⟨kI1, kI2⟩
    have hn : it ∉ ownL C fa' fo' ++ C.fp ∧ ee ∉ ownL C fa' fo' ++ C.fp := ⟨hn1, hn2⟩
    have hL' : h'.IsList l vs.toArray := ⟨o, S'.kn _ _ (kk _ _ f1), f2, n, f3⟩
    cases r with
    | nil =>
      rw [List.append_nil] at hx
      have hnone : vs.toArray[i]? = none := by
        have : vs.length ≤ i := by rw [hlen, hx, hdn]; exact Nat.le_refl _
        simpa using this
      refine wpAny_pyNext_enum_end (s := { s with heap := h', toks := tk }) S'.ok.hh hE hI hL' hnone fun h3 hx3 => wpAny_execs_nil ?_
      have S3 := S'.off (h' := h3) (a := it) (fun b o hb e => hx3 b o hb e) ⟨kI.1, a2⟩ hn.1 (fun v ic => by
        obtain ⟨o1, ho1, _, hd1⟩ := hI
        obtain ⟨o2, ho2, hd2⟩ := ic
        rw [ho1] at ho2; cases ho2; rw [hd1] at hd2; cases hd2)
      exact q .next h3 tk K' fa' .next ρ' fo' st' (done _ _ _ _ hJ) (k1.trans kk) S3 trivial
    | cons x r =>
      have hxi : (xs.map f)[i]? = some (f x) := by rw [hx, List.getElem?_map, ← hdn]; simp
      obtain ⟨v, hv, rv⟩ := f5.get hxi
      have hv' : vs.toArray[i]? = some v := by simpa using hv
      refine wpAny_pyNext_enum_item (s := { s with heap := h', toks := tk }) hE hI hL' hv' eit fun h3 heo hit3 ht3 hz3 hk3 => ?_
      dsimp only at heo hit3 ht3 hz3 hk3
      refine wpAny_letOwnedTupleGo_enum (s := ⟨h3, _, _, _, _⟩) heo fun h4 he4 hs4 => ?_
      dsimp only at hs4
      have tn : h'.objs.size ≠ ee := fun z => by have := hE; rw [← z] at this; exact absurd (Heap.lt_size this) (Nat.lt_irrefl _)
      have S4 : St C B mu K₀ fa' ρ' fo' K' st' h4 := by
        refine S'.offs (h' := h4) (xs := [ee, it]) (fun b o hb e => ?_) (fun a ha => ?_) (fun a ha => ?_) (fun a ha v ic => ?_)
        · rw [List.mem_cons, List.mem_singleton, not_or] at hb
          exact hs4.extBut b o hb.1 (hk3 b o hb.1 hb.2 e)
        · rw [List.mem_cons, List.mem_singleton] at ha
          rcases ha with rfl | rfl
          · exact ⟨kI.2, b2⟩
          · exact ⟨kI.1, a2⟩
        · rw [List.mem_cons, List.mem_singleton] at ha
          rcases ha with rfl | rfl
          · exact hn.2
          · exact hn.1
        · rw [List.mem_cons, List.mem_singleton] at ha
          obtain ⟨o2, ho2, hd2⟩ := ic
          rcases ha with rfl | rfl
          · have hE' : h'.get? a = some _ := hE
            rw [hE'] at ho2; cases ho2; cases hd2
          · obtain ⟨o1, ho1, _, hd1⟩ := hI
            rw [ho1] at ho2; cases ho2; rw [hd1] at hd2; cases hd2
      have ht4 : h4.get? h'.objs.size = some { cls := .type "tuple", data := .seq #[.int i tk, v] } := hs4.extBut _ _ tn ht3
      obtain ⟨ρ₁, hb, hbody⟩ := turn i x r ρ' fo' st' hJ
      refine wpAny_assign_Tuple (s := ⟨h4, _, _, _, _⟩) (items := #[.int i tk, v]) S4.ok.hh ⟨_, ht4, rfl, 0, rfl⟩ rfl rfl fun h5 he5 => ?_
      have kp5 : ∀ b o, h4.get? b = some o → h5.get? b = some o := fun b o e => he5 b o (fun z => by rw [z, size_none] at e; cases e) e
      have S5 : St C B mu K₀ fa' ρ' fo' K' st' h5 := S4.keeps kp5
      have e5 : IsEnum h5 ee it ((i : Int) + 1) v := kp5 _ _ he4
      have hn5 : h5.IsListIter it l (i + 1) := by
        obtain ⟨o1, ho1, r1⟩ := hit3
        exact ⟨o1, kp5 _ _ (hs4.extBut _ _ (Ne.symm eit) ho1), r1⟩
      refine hb.go (s := ⟨h5, _, _, _, _⟩) S5.rebase (.cons (.int ..) (.cons (rv.mono kk) .nil)) fun h6 tk6 S6 => ?_
      refine hbody h5 (ownL C fa' fo') K' fa' K' ⟨h6, _, _, tk6, _⟩ _ _ S6 fun fl0 h7 tk7 K7 fa7 fl ρ7 fo7 st7 p7 k7 S7 r7 => ?_
      have fp5 : ∀ b ∈ [it, ee], (h5.get? b).isSome = true ∧ b ∉ ownL C fa' fo' ++ C.fp := fun b hb => by
        rw [List.mem_cons, List.mem_singleton] at hb
        rcases hb with rfl | rfl
        · obtain ⟨o1, ho1, _⟩ := hn5
          exact ⟨by rw [ho1]; rfl, hn.1⟩
        · have e5' : h5.get? b = some _ := e5
          exact ⟨by rw [e5']; rfl, hn.2⟩
      obtain ⟨g1, g2, g3⟩ := S7.stood (B := B) fp5 kI.1 (by simp)
      obtain ⟨_, _, g4⟩ := S7.stood (B := B) fp5 kI.2 (by simp)
      have S8 := S5.back S7
      cases fl0 with
      | next =>
        cases fl with
        | next =>
          refine ⟨xs.length + 1 - (i + 1), by have : i < xs.length := (by rw [hx, ← hdn]; simp); omega, .mk (i + 1) h7 tk7 fa7 ρ7 fo7 st7 K7 v (dn ++ [x]) r (by rw [hx]; simp) (by simp [hdn]) (kk.trans k7) g3 g4 S8 ?_ ?_ (g2 it (by simp)).2 (g2 ee (by simp)).2 p7⟩
          · rw [show ((i + 1 : Nat) : Int) = (i : Int) + 1 by push_cast; rfl]
            exact g1 ee (by simp) _ e5
          · obtain ⟨o1, ho1, r1⟩ := hn5
            exact ⟨o1, g1 it (by simp) _ ho1, r1⟩
        | brk => cases r7
        | ret d => cases r7
      | brk =>
        cases fl with
        | next => cases r7
        | brk => exact q .next h7 tk7 K7 fa7 .next ρ7 fo7 st7 p7 ((k1.trans kk).trans k7) S8 trivial
        | ret d => cases r7
      | cont => cases fl <;> cases r7
      | ret v =>
        cases fl with
        | next => cases r7
        | brk => cases r7
        | ret d => exact q (.ret v) h7 tk7 K7 fa7 (.ret d) ρ7 fo7 st7 p7 ((k1.trans kk).trans k7) S8 r7))) (by decide)))
end
end Mine
end
section
open PySem PyProof.Rows
set_option linter.unusedVariables false
set_option linter.unusedSimpArgs false
namespace Mine
noncomputable def areGo (p : Option Int) : List (Int × Int) → Bool
  | [] => true
  | (l, h) :: r => decide (0 ≤ l) && decide (l ≤ h) && (match p with | none => true | some a => decide (h < a - 1)) && areGo (some l) r
section
variable {σ : Type} {C : Cx σ} {ρ ρ' : Ro} {fo : Option (List Dt)} {st st1 st2 : σ} {e : Expr} {b b' : Bool} {d d' : Dt} {ds es : List Dt} {P : Post σ}
theorem Tst.cmp2 {l r r' : Expr} {pos : Pos} {x y z : Int} (hl : Ev C ρ fo st l (.int x) st) (hr : Ev C ρ fo st r (.int y) st) (hr' : Ev C ρ fo st r' (.int z) st) (hm : lastMarks [.LtE, .LtE] [r, r'] = false := by rfl) :
    Tst C ρ fo st (.Compare l [.LtE, .LtE] [r, r'] pos) (decide (x ≤ y) && decide (y ≤ z)) st := by
  by_cases h : x ≤ y
  · exact Tst.as (Tst.cmp2t hl hr (le_t h) hr' (.leI _ _) hm) (by simp [h])
  · exact Tst.as (Tst.cmp2f hl hr (le_f h) hm) (by simp [h])
theorem fn_are_right (W : Wd C) (hl : 1 ≤ C.lv) (rs : List (Int × Int)) (hlen : rs.length ≤ 1000) : FnOk C "are_right" [.lst (rng rs)] st (.bool (areGo none rs)) st := by
  refine FnOk.of_body (i := 29) (ps := [("ranges", .lst (rng rs))]) W rfl (by decide) hl rfl (fun pm cd doc vs h => by match vs, h with | [a], _ => rfl) fun L' a cd => ?_
  refine Exs.cons (Ex.forEnum (f := pr) (xs := rs) (Ev.name rfl) (fun i r ρ fo st' => fo = none ∧ st' = st ∧ ∃ x y, (ρ = ([("ranges", some (.lst (rng rs))), ("at", x), ("one", y)] : Ro)) ∧ ∃ dn, rs = dn ++ r ∧ dn.length = i ∧ areGo (dn.getLast?.map (·.1)) r = areGo none rs)
    ⟨rfl, rfl, none, none, rfl, [], rfl, rfl, rfl⟩ ?_ ?_)
  · rintro i ⟨l, h⟩ r ρ fo st' ⟨rfl, rfl, x, y, rfl, dn, hrs, hdn, hgo⟩
    refine ⟨_, .cons (Or.inl rfl) (Or.inr rfl) rfl (.cons (Or.inl rfl) (Or.inr rfl) rfl .nil), ?_⟩
    by_cases hok : 0 ≤ l ∧ l ≤ h
    · have hb : (decide (0 ≤ l) && decide (l ≤ h)) = true := by simp [hok]
      rcases List.eq_nil_or_concat dn with rfl | ⟨dn', p, rfl⟩
      · have hi : i = 0 := by simpa using hdn.symm
        subst hi
        refine Exs.cons (Ex.ite_f (Tst.or_f (Tst.not_f (Tst.as (Tst.cmp2 Ev.cint (Ev.item (Ev.name rfl) Ev.cint item0) (Ev.item (Ev.name rfl) Ev.cint item1)) hb)) (Tst.or_f (Tst.and_f (Tst.cmp (Ev.name rfl) Ev.cint (gt_f (by decide)))) Tst.or_0)) (Exs.nil (Exs.nil ⟨rfl, rfl, _, _, rfl, [(l, h)], by rw [hrs]; rfl, rfl, ?_⟩)))
        rw [← hgo]; simp [areGo, hok]
      · have hi : i = dn'.length + 1 := by rw [← hdn]; simp
        have hlt : dn'.length ≤ 1000 := by rw [hrs] at hlen; simp at hlen; omega
        have hp : 0 < (i : Int) := by omega
        have hget : (rng rs)[dn'.length]? = some (pr p) := by rw [hrs]; simp [rng]
        have hsz : seqIndex? ((i : Int) - 1) (rng rs).length = some dn'.length := by
          rw [seqIndex_of (by omega) (by rw [hrs]; simp [rng]; omega)]
          congr 1; omega
        by_cases hc : h ≥ p.1 - 1
        · refine Exs.cons (Ex.ite_t (Tst.or_f (Tst.not_f (Tst.as (Tst.cmp2 Ev.cint (Ev.item (Ev.name rfl) Ev.cint item0) (Ev.item (Ev.name rfl) Ev.cint item1)) hb)) (Tst.or_t (Tst.and_t (Tst.cmp (Ev.name rfl) Ev.cint (gt_t hp))
            (Tst.and_t (Tst.cmp (Ev.item (Ev.name rfl) Ev.cint item1) (Ev.bin (Ev.item (Ev.item (Ev.name rfl) (Ev.bin (Ev.name rfl) Ev.cint (.subI _ _)) (.lst _ _ _ _ (by omega) (by omega) hsz hget)) Ev.cint item0) Ev.cint (.subI _ _)) (ge_t hc)) Tst.and_0)))) (Exs.cons (Ex.ret Ev.cbool ⟨?_, rfl⟩)))
          rw [← hgo]
          simp only [areGo, List.concat_eq_append, List.getLast?_append, List.getLast?_singleton, Option.some_or, Option.map_some]
          rw [show decide (h < p.1 - 1) = false by simp; omega]; simp
        · refine Exs.cons (Ex.ite_f (Tst.or_f (Tst.not_f (Tst.as (Tst.cmp2 Ev.cint (Ev.item (Ev.name rfl) Ev.cint item0) (Ev.item (Ev.name rfl) Ev.cint item1)) hb)) (Tst.or_f (Tst.and_t (Tst.cmp (Ev.name rfl) Ev.cint (gt_t hp))
            (Tst.and_f (Tst.cmp (Ev.item (Ev.name rfl) Ev.cint item1) (Ev.bin (Ev.item (Ev.item (Ev.name rfl) (Ev.bin (Ev.name rfl) Ev.cint (.subI _ _)) (.lst _ _ _ _ (by omega) (by omega) hsz hget)) Ev.cint item0) Ev.cint (.subI _ _)) (ge_f hc)))) Tst.or_0)) (Exs.nil (Exs.nil ⟨rfl, rfl, _, _, rfl, dn'.concat p ++ [(l, h)], by rw [hrs]; simp, by simp [hi], ?_⟩)))
          rw [← hgo]
          simp only [areGo, List.concat_eq_append, List.getLast?_append, List.getLast?_singleton, Option.some_or, Option.map_some]
          rw [show decide (h < p.1 - 1) = true by simp; omega, hb]; simp
    · have hb : (decide (0 ≤ l) && decide (l ≤ h)) = false := by
        rw [Bool.eq_false_iff]; intro z; simp at z; exact hok z
      refine Exs.cons (Ex.ite_t (Tst.or_t (Tst.not_t (Tst.as (Tst.cmp2 Ev.cint (Ev.item (Ev.name rfl) Ev.cint item0) (Ev.item (Ev.name rfl) Ev.cint item1)) hb))) (Exs.cons (Ex.ret Ev.cbool ⟨?_, rfl⟩)))
      rw [← hgo, areGo.eq_def]
      dsimp only
      rw [hb]; rfl
  · rintro i ρ fo st' ⟨rfl, rfl, x, y, rfl, dn, hrs, hdn, hgo⟩
    refine Exs.cons (Ex.ret Ev.cbool ⟨?_, rfl⟩)
    rw [← hgo]; rfl
theorem Ev.listRange {p1 p2 pos1 pos2 : Pos} {e1 e2 : Expr} {a b : Int} (ha : Es C ρ fo st [e1, e2] [.int a, .int b] st1) (ha' : a.natAbs ≤ 1000000) (hb' : b.natAbs ≤ 1000000) (hk1 : C.env.kindOf "list" = some .globalImplicit := by rfl) (hk : C.env.kindOf "range" = some .globalImplicit := by rfl) (hs : noStars [e1, e2] = true := by rfl) :
    Ev C ρ fo st (.Call (.Name "list" p1) [.Call (.Name "range" p2) [e1, e2] [] pos2] [] pos1) (.lst (dints (W.rangeKs a (b - a).toNat))) st1 :=
  fun B mu K₀ fa K s Q E S h => wpAny_Call_NameR (S.builtName hk1 (S.ok.bl "list" (.type "list") rfl).1 (S.ok.bl "list" (.type "list") rfl).2 (PyProof.Rows.callWith_type rfl (evalArgs_ns rfl (by
    rw [starEach_cons (e := .Call (.Name "range" p2) [e1, e2] [] pos2) rfl]
    refine Calls.spliced_cons (wpAny_Call_NameR (S.builtName hk (S.ok.bl "range" (.type "range") rfl).1 (S.ok.bl "range" (.type "range") rfl).2 (PyProof.Rows.callWith_type (any_star hs) (evalArgs_ns (any_star hs) (ha pos2 B mu K₀ fa K s _ E S fun vs h1 tk1 K1 k1 S1 r1 => ?_))) (by decide)))
    obtain ⟨v, r, u, r', rfl⟩ := r1.two
    obtain ⟨t, rfl⟩ := r.int_inv
    obtain ⟨t', rfl⟩ := r'.int_inv
    refine call_range_2 (s := { s with heap := h1, toks := tk1 }) (Calls.spliced_nil ?_)
    have S2 := S1.pushed { cls := .type "range", data := .fields #[.int a t, .int b t', .int 1 tk1] }
    obtain ⟨m, hm, _⟩ := S2.fr
    refine W.kll_range (s := ⟨h1.push { cls := .type "range", data := .fields #[.int a t, .int b t', .int 1 tk1] }, _, _, _, _⟩) (n := (b - a).toNat) S.ok.hh (fr_e0 hm) (news_e0 _ _) (IsRange.new h1 a b 1 t t' tk1) (small_ok (by omega) (by omega) (Or.inl rfl)) (by rw [rangeSize_one]; split <;> omega) (by omega) fun D us c h' tk F' N' hlt hi => ?_
    have hD := N' (D, _) List.mem_cons_self
    obtain ⟨k, S'⟩ := S2.add (S2.none_of_gt (o := W.listOf (List.toArray us) c) hm hD.2.1 hlt) (S2.lib hm F' N' fun p hp => List.mem_cons_of_mem _ hp) hD.1
    refine h _ h' tk _ (k1.trans k) S' (.lst (kadd_self ..) rfl rfl ?_ ((intsAre_rds hi)))
    simp [dints, W.rangeKs]
    unfold lim; omega)) ) (by decide))
end
end Mine
end
section
open PySem PyProof.Rows
set_option linter.unusedVariables false
set_option linter.unusedSimpArgs false
namespace Mine
noncomputable def Can (u : Int) : List (Int × Int) → Prop
  | [] => True
  | (a, b) :: r => a ≤ b ∧ b + 1 < u ∧ Can a r
noncomputable def inS (rs : List (Int × Int)) (x : Int) : Prop := ∃ p ∈ rs, p.1 ≤ x ∧ x ≤ p.2
theorem inS_nil {x : Int} : ¬ inS [] x := fun ⟨_, h, _⟩ => nomatch h
theorem inS_cons {p : Int × Int} {r : List (Int × Int)} {x : Int} : inS (p :: r) x ↔ (p.1 ≤ x ∧ x ≤ p.2) ∨ inS r x := by
  constructor
  · rintro ⟨q, hq, h⟩
    rcases List.mem_cons.mp hq with rfl | hq
    · exact Or.inl h
    · exact Or.inr ⟨q, hq, h⟩
  · rintro (h | ⟨q, hq, h⟩)
    · exact ⟨p, List.mem_cons_self, h⟩
    · exact ⟨q, List.mem_cons_of_mem _ hq, h⟩
theorem hasN_iff {rs : List (Int × Int)} {x : Int} : hasN rs x = true ↔ inS rs x := by
  unfold hasN inS
  rw [List.any_eq_true]
  simp
theorem Can.mono {u u' : Int} {rs : List (Int × Int)} (h : Can u rs) (hu : u ≤ u') : Can u' rs := by
  cases rs with
  | nil => trivial
  | cons p r => exact ⟨h.1, by have := h.2.1; omega, h.2.2⟩
theorem Can.lt {rs : List (Int × Int)} : ∀ {u x : Int}, Can u rs → inS rs x → x + 1 < u := by
  induction rs with
  | nil => intro u x _ h; exact absurd h inS_nil
  | cons p r ih =>
    intro u x hc h
    obtain ⟨h1, h2, h3⟩ := hc
    rcases inS_cons.mp h with h | h
    · omega
    · have := ih h3 h; omega
theorem Can.uniq {rs : List (Int × Int)} : ∀ {u : Int} {ss : List (Int × Int)}, Can u rs → Can u ss → (∀ x, inS rs x ↔ inS ss x) → rs = ss := by
  induction rs with
  | nil =>
    intro u ss _ hs he
    cases ss with
    | nil => rfl
    | cons p s => exact absurd ((he p.1).mpr (inS_cons.mpr (Or.inl ⟨Int.le_refl _, hs.1⟩))) inS_nil
  | cons p r ih =>
    intro u ss hr hs he
    cases ss with
    | nil => exact absurd ((he p.1).mp (inS_cons.mpr (Or.inl ⟨Int.le_refl _, hr.1⟩))) inS_nil
    | cons q s =>
      obtain ⟨a, b⟩ := p
      obtain ⟨c, d⟩ := q
      obtain ⟨r1, r2, r3⟩ := hr
      obtain ⟨s1, s2, s3⟩ := hs
      have inr : ∀ {x}, inS ((a, b) :: r) x → x ≤ b := fun {x} h => by
        rcases inS_cons.mp h with h | h
        · exact h.2
        · have := r3.lt h; omega
      have ins : ∀ {x}, inS ((c, d) :: s) x → x ≤ d := fun {x} h => by
        rcases inS_cons.mp h with h | h
        · exact h.2
        · have := s3.lt h; omega
      have hbd : b ≤ d := ins ((he b).mp (inS_cons.mpr (Or.inl ⟨r1, Int.le_refl _⟩)))
      have hdb : d ≤ b := inr ((he d).mpr (inS_cons.mpr (Or.inl ⟨s1, Int.le_refl _⟩)))
      have e : b = d := Int.le_antisymm hbd hdb
      subst e
      have hac : ¬ a < c := fun hlt => by
        rcases inS_cons.mp ((he (c - 1)).mp (inS_cons.mpr (Or.inl ⟨(by show a ≤ c - 1; omega), (by show c - 1 ≤ b; omega)⟩))) with h | h
        · have := h.1; dsimp only at this; omega
        · have := s3.lt h; omega
      have hca : ¬ c < a := fun hlt => by
        rcases inS_cons.mp ((he (a - 1)).mpr (inS_cons.mpr (Or.inl ⟨(by show c ≤ a - 1; omega), (by show a - 1 ≤ b; omega)⟩))) with h | h
        · have := h.1; dsimp only at this; omega
        · have := r3.lt h; omega
      have e : a = c := by omega
      subst e
      have : r = s := ih r3 s3 fun x => ⟨fun h => by
        have hx := r3.lt h
        rcases inS_cons.mp ((he x).mp (inS_cons.mpr (Or.inr h))) with h | h
        · have := h.1; dsimp only at this; omega
        · exact h, fun h => by
        have hx := s3.lt h
        rcases inS_cons.mp ((he x).mpr (inS_cons.mpr (Or.inr h))) with h | h
        · have := h.1; dsimp only at this; omega
        · exact h⟩
      rw [this]
theorem lrF_ok (xs : List Int) : ∀ {lo hi u : Int}, lo ≤ hi → hi + 1 < u → (lo :: xs).Pairwise (· > ·) → Can u (lrF lo hi xs) ∧ ∀ x, inS (lrF lo hi xs) x ↔ (lo ≤ x ∧ x ≤ hi) ∨ x ∈ xs := by
  induction xs with
  | nil =>
    intro lo hi u h1 h2 _
    exact ⟨⟨h1, h2, trivial⟩, fun x => by rw [lrF, inS_cons]; simp [inS_nil]⟩
  | cons y r ih =>
    intro lo hi u h1 h2 hp
    rw [List.pairwise_cons] at hp
    have hy := hp.1 y List.mem_cons_self
    unfold lrF
    by_cases h : lo = y + 1
    · rw [if_pos h]
      obtain ⟨c1, c2⟩ := ih (lo := y) (hi := hi) (u := u) (by omega) h2 hp.2
      refine ⟨c1, fun x => ?_⟩
      rw [c2, List.mem_cons]
      constructor
      · rintro (q | q)
        · by_cases hx : x = y
          · exact Or.inr (Or.inl hx)
          · exact Or.inl ⟨by omega, q.2⟩
        · exact Or.inr (Or.inr q)
      · rintro (q | q | q)
        · exact Or.inl ⟨by omega, q.2⟩
        · exact Or.inl ⟨by omega, by omega⟩
        · exact Or.inr q
    · rw [if_neg h]
      obtain ⟨c1, c2⟩ := ih (lo := y) (hi := y) (u := lo) (Int.le_refl _) (by omega) hp.2
      refine ⟨⟨h1, h2, c1⟩, fun x => ?_⟩
      rw [inS_cons, c2, List.mem_cons]
      constructor
      · rintro (q | q | q)
        · exact Or.inl q
        · exact Or.inr (Or.inl (by omega))
        · exact Or.inr (Or.inr q)
      · rintro (q | q | q)
        · exact Or.inl q
        · exact Or.inr (Or.inl ⟨by omega, by omega⟩)
        · exact Or.inr (Or.inr q)
theorem lrs_ok {xs : List Int} {u : Int} (hp : xs.Pairwise (· > ·)) (hu : ∀ x ∈ xs, x + 1 < u) : Can u (lrs xs) ∧ ∀ x, inS (lrs xs) x ↔ x ∈ xs := by
  cases xs with
  | nil => exact ⟨trivial, fun x => ⟨fun h => absurd h inS_nil, fun h => nomatch h⟩⟩
  | cons y r =>
    obtain ⟨c1, c2⟩ := lrF_ok r (lo := y) (hi := y) (u := u) (Int.le_refl _) (hu y List.mem_cons_self) hp
    refine ⟨c1, fun x => ?_⟩
    show inS (lrF y y r) x ↔ _
    rw [c2, List.mem_cons]
    constructor
    · rintro (q | q)
      · exact Or.inl (by omega)
      · exact Or.inr q
    · rintro (q | q)
      · exact Or.inl ⟨by omega, by omega⟩
      · exact Or.inr q
theorem addT {r : List (Int × Int)} : ∀ {low high u : Int}, low ≤ high → u < low → Can u r → addGo low high true r = r := by
  induction r with
  | nil => intro _ _ _ _ _ _; rfl
  | cons p r ih =>
    intro low high u h1 h2 hc
    obtain ⟨a, b⟩ := p
    obtain ⟨c1, c2, c3⟩ := hc
    unfold addGo
    rw [if_neg (by omega), if_pos (by omega), if_pos rfl, ih (u := a) h1 (by omega) c3]
theorem addF {rs : List (Int × Int)} : ∀ {low high u : Int}, low ≤ high → high + 1 < u → Can u rs → Can u (addGo low high false rs) ∧ ∀ x, inS (addGo low high false rs) x ↔ (low ≤ x ∧ x ≤ high) ∨ inS rs x := by
  induction rs with
  | nil =>
    intro low high u h1 h2 _
    exact ⟨⟨h1, h2, trivial⟩, fun x => by show inS [(low, high)] x ↔ _; rw [inS_cons]⟩
  | cons p r ih =>
    intro low high u h1 h2 hc
    obtain ⟨a, b⟩ := p
    obtain ⟨c1, c2, c3⟩ := hc
    unfold addGo
    by_cases q1 : a > high + 1
    · rw [if_pos q1]
      obtain ⟨d1, d2⟩ := ih (u := a) h1 (by omega) c3
      refine ⟨⟨c1, c2, d1⟩, fun x => ?_⟩
      rw [inS_cons, inS_cons, d2]
      constructor
      · rintro (q | q | q)
        · exact Or.inr (Or.inl q)
        · exact Or.inl q
        · exact Or.inr (Or.inr q)
      · rintro (q | q | q)
        · exact Or.inr (Or.inl q)
        · exact Or.inl q
        · exact Or.inr (Or.inr q)
    · rw [if_neg q1]
      by_cases q2 : b < low - 1
      · rw [if_pos q2, if_neg (by simp), addT (u := a) h1 (by omega) c3]
        refine ⟨⟨h1, h2, c1, by omega, c3⟩, fun x => ?_⟩
        rw [inS_cons]
      · rw [if_neg q2]
        have e1 : (if a < low then a else low) ≤ a ∧ (if a < low then a else low) ≤ low ∧ ((if a < low then a else low) = a ∨ (if a < low then a else low) = low) := by split <;> omega
        have e2 : b ≤ (if b > high then b else high) ∧ high ≤ (if b > high then b else high) ∧ ((if b > high then b else high) = b ∨ (if b > high then b else high) = high) := by split <;> omega
        generalize (if a < low then a else low) = l' at e1 ⊢
        generalize (if b > high then b else high) = h' at e2 ⊢
        obtain ⟨d1, d2⟩ := ih (low := l') (high := h') (u := u) (by omega) (by omega) (c3.mono (by omega))
        refine ⟨d1, fun x => ?_⟩
        rw [d2, inS_cons]
        constructor
        · rintro (q | q)
          · by_cases z : low ≤ x ∧ x ≤ high
            · exact Or.inl z
            · exact Or.inr (Or.inl ⟨by show a ≤ x; omega, by show x ≤ b; omega⟩)
          · exact Or.inr (Or.inr q)
        · rintro (q | q | q)
          · exact Or.inl ⟨by omega, by omega⟩
          · have q1 : a ≤ x := q.1
            have q2 : x ≤ b := q.2
            exact Or.inl ⟨by omega, by omega⟩
          · exact Or.inr q
theorem prune_ok {rs : List (Int × Int)} {low : Int} : ∀ {u : Int}, Can u rs → Can u (pruneL low rs) ∧ ∀ x, inS (pruneL low rs) x ↔ inS rs x ∧ low ≤ x := by
  induction rs with
  | nil => intro u _; exact ⟨trivial, fun x => ⟨fun h => absurd h inS_nil, fun h => absurd h.1 inS_nil⟩⟩
  | cons p r ih =>
    intro u hc
    obtain ⟨a, b⟩ := p
    obtain ⟨c1, c2, c3⟩ := hc
    obtain ⟨d1, d2⟩ := ih (u := a) c3
    unfold pruneL at d1 d2 ⊢
    rw [List.filterMap_cons]
    by_cases q : b ≥ low
    · rw [if_pos q]
      have e1 : a ≤ (if low > a then low else a) ∧ low ≤ (if low > a then low else a) ∧ ((if low > a then low else a) = a ∨ (if low > a then low else a) = low) := by split <;> omega
      generalize (if low > a then low else a) = a' at e1 ⊢
      refine ⟨⟨by omega, c2, d1.mono e1.1⟩, fun x => ?_⟩
      show inS ((a', b) :: _) x ↔ _
      rw [inS_cons, inS_cons, d2]
      constructor
      · rintro (z | ⟨z, y⟩)
        · have z1 : a' ≤ x := z.1
          exact ⟨Or.inl ⟨by show a ≤ x; omega, z.2⟩, by omega⟩
        · exact ⟨Or.inr z, y⟩
      · rintro ⟨z | z, y⟩
        · have z1 : a ≤ x := z.1
          exact Or.inl ⟨by show a' ≤ x; omega, z.2⟩
        · exact Or.inr ⟨z, y⟩
    · rw [if_neg q]
      refine ⟨Can.mono d1 (by omega), fun x => ?_⟩
      show inS (List.filterMap _ r) x ↔ _
      rw [d2, inS_cons]
      constructor
      · rintro ⟨z, y⟩; exact ⟨Or.inr z, y⟩
      · rintro ⟨z | z, y⟩
        · have z2 : x ≤ b := z.2
          omega
        · exact ⟨z, y⟩
theorem lrF_count (xs : List Int) : ∀ lo hi : Int, ((lrF lo hi xs).map fun p => p.2 - p.1 + 1).sum = hi - lo + 1 + (xs.length : Int) := by
  induction xs with
  | nil => intro lo hi; simp [lrF]
  | cons y r ih =>
    intro lo hi
    unfold lrF
    by_cases h : lo = y + 1
    · rw [if_pos h, ih]; simp; omega
    · rw [if_neg h, List.map_cons, List.sum_cons, ih]; simp; omega
theorem lrs_count (xs : List Int) : ((lrs xs).map fun p => p.2 - p.1 + 1).sum = (xs.length : Int) := by
  cases xs with
  | nil => rfl
  | cons y r => show ((lrF y y r).map _).sum = _; rw [lrF_count]; simp; omega
theorem are_ok {rs : List (Int × Int)} : ∀ {u : Int}, Can u rs → (∀ p ∈ rs, 0 ≤ p.1) → areGo (some u) rs = true := by
  induction rs with
  | nil => intro _ _ _; rfl
  | cons p r ih =>
    intro u hc h0
    obtain ⟨a, b⟩ := p
    obtain ⟨c1, c2, c3⟩ := hc
    have ha : 0 ≤ a := h0 (a, b) List.mem_cons_self
    show (decide (0 ≤ a) && decide (a ≤ b) && decide (b < u - 1) && areGo (some a) r) = true
    rw [ih c3 fun p hp => h0 p (List.mem_cons_of_mem _ hp)]
    simp; omega
theorem are_ok0 {rs : List (Int × Int)} {u : Int} (hc : Can u rs) (h0 : ∀ p ∈ rs, 0 ≤ p.1) : areGo none rs = true := by
  cases rs with
  | nil => rfl
  | cons p r =>
    obtain ⟨a, b⟩ := p
    obtain ⟨c1, c2, c3⟩ := hc
    have ha : 0 ≤ a := h0 (a, b) List.mem_cons_self
    show (decide (0 ≤ a) && decide (a ≤ b) && true && areGo (some a) r) = true
    rw [are_ok c3 fun p hp => h0 p (List.mem_cons_of_mem _ hp)]
    simp; omega
theorem lrF_head (xs : List Int) : ∀ lo hi : Int, ∃ l r, lrF lo hi xs = (l, hi) :: r := by
  induction xs with
  | nil => intro lo hi; exact ⟨lo, [], rfl⟩
  | cons y r ih =>
    intro lo hi
    unfold lrF
    by_cases h : lo = y + 1
    · rw [if_pos h]; exact ih _ _
    · rw [if_neg h]; exact ⟨_, _, rfl⟩
theorem lrF_len (xs : List Int) : ∀ lo hi : Int, (lrF lo hi xs).length ≤ 1 + xs.length := by
  induction xs with
  | nil => intro lo hi; simp [lrF]
  | cons y r ih =>
    intro lo hi
    unfold lrF
    by_cases h : lo = y + 1
    · rw [if_pos h]; have := ih y hi; simp; omega
    · rw [if_neg h]; have := ih y y; simp; omega
theorem lrs_len (xs : List Int) : (lrs xs).length ≤ xs.length := by
  cases xs with
  | nil => exact Nat.le_refl _
  | cons y r => have := lrF_len r y y; show (lrF y y r).length ≤ _; simp; omega
theorem ranges_gaps (rs : List (Int × Int)) : ∀ lo : Int, rangesF lo (gapsL lo rs) = rs := by
  induction rs with
  | nil => intro _; rfl
  | cons p r ih =>
    intro lo
    obtain ⟨l, h⟩ := p
    show (lo - (lo - h - 2) - 2 - (h - l), lo - (lo - h - 2) - 2) :: rangesF (lo - (lo - h - 2) - 2 - (h - l)) (gapsL l r) = _
    have e1 : lo - (lo - h - 2) - 2 - (h - l) = l := by omega
    have e2 : lo - (lo - h - 2) - 2 = h := by omega
    rw [e1, e2, ih]
theorem rangesOk_gaps (rs : List (Int × Int)) : ∀ lo : Int, (∀ p ∈ rs, 0 ≤ p.1) → rangesOk lo (gapsL lo rs) := by
  induction rs with
  | nil => intro _ _; trivial
  | cons p r ih =>
    intro lo h0
    obtain ⟨l, h⟩ := p
    have hl : 0 ≤ l := h0 (l, h) List.mem_cons_self
    have e1 : lo - (lo - h - 2) - 2 - (h - l) = l := by omega
    show 0 ≤ lo - (lo - h - 2) - 2 - (h - l) ∧ rangesOk (lo - (lo - h - 2) - 2 - (h - l)) (gapsL l r)
    rw [e1]
    exact ⟨hl, ih l fun p hp => h0 p (List.mem_cons_of_mem _ hp)⟩
theorem gaps_sm (rs : List (Int × Int)) : ∀ lo : Int, Can lo rs → lo < 1000000 → (∀ p ∈ rs, 0 ≤ p.1) → ∀ q ∈ gapsL lo rs, sm q.1 ∧ sm q.2 := by
  induction rs with
  | nil => intro _ _ _ _ q hq; cases hq
  | cons p r ih =>
    intro lo hc hlo h0 q hq
    obtain ⟨l, h⟩ := p
    obtain ⟨c1, c2, c3⟩ := hc
    have hl : 0 ≤ l := h0 (l, h) List.mem_cons_self
    rcases List.mem_cons.mp hq with rfl | hq
    · exact ⟨⟨by show 0 ≤ lo - h - 2; omega, by show lo - h - 2 < _; omega⟩, ⟨by show 0 ≤ h - l; omega, by show h - l < _; omega⟩⟩
    · exact ih l c3 (by omega) (fun p hp => h0 p (List.mem_cons_of_mem _ hp)) q hq
end Mine
end
section
open PySem PyProof.Rows
set_option linter.unusedVariables false
set_option linter.unusedSimpArgs false
namespace Mine
structure LotOk (ns : List Int) (b : Int) : Prop where
  srt : ns.Pairwise (· < ·)
  len : ns.length ≤ 10
  b0 : 0 ≤ b
  b1 : b ≤ 20000
  mem : ∀ x ∈ ns, b ≤ x ∧ x < b + 10
noncomputable abbrev RR (ns : List Int) : List (Int × Int) := lrs ns.reverse
noncomputable def ins (n : Int) : List Int → List Int
  | [] => [n]
  | x :: r => if n < x then n :: x :: r else x :: ins n r
theorem ins_mem {n x : Int} {l : List Int} : x ∈ ins n l ↔ x = n ∨ x ∈ l := by
  induction l with
  | nil => simp [ins]
  | cons y r ih =>
    unfold ins
    split
    · simp
    · rw [List.mem_cons, ih, List.mem_cons]
      constructor
      · rintro (h | h | h)
        · exact Or.inr (Or.inl h)
        · exact Or.inl h
        · exact Or.inr (Or.inr h)
      · rintro (h | h | h)
        · exact Or.inr (Or.inl h)
        · exact Or.inl h
        · exact Or.inr (Or.inr h)
theorem ins_srt {n : Int} {l : List Int} (h : l.Pairwise (· < ·)) (hn : n ∉ l) : (ins n l).Pairwise (· < ·) := by
  induction l with
  | nil => simp [ins]
  | cons y r ih =>
    rw [List.pairwise_cons] at h
    rw [List.mem_cons, not_or] at hn
    unfold ins
    split
    · rename_i hlt
      refine List.pairwise_cons.mpr ⟨fun z hz => ?_, List.pairwise_cons.mpr h⟩
      rcases List.mem_cons.mp hz with rfl | hz
      · exact hlt
      · have := h.1 z hz; omega
    · refine List.pairwise_cons.mpr ⟨fun z hz => ?_, ih h.2 hn.2⟩
      rcases ins_mem.mp hz with rfl | hz
      · omega
      · exact h.1 z hz
theorem ins_perm {n : Int} {l : List Int} : (ins n l).Perm (l ++ [n]) := by
  induction l with
  | nil => exact .refl _
  | cons y r ih =>
    unfold ins
    split
    · exact (List.perm_append_comm (l₁ := [n]) (l₂ := y :: r))
    · exact ih.cons y
theorem srt_le {l : List Int} (h : l.Pairwise (· < ·)) : l.Pairwise (· ≤ ·) := h.imp fun h => Int.le_of_lt h
theorem srt_rev {l : List Int} (h : l.Pairwise (· < ·)) : l.reverse.Pairwise (· > ·) := List.pairwise_reverse.mpr h
theorem srt_nodup {l : List Int} (h : l.Pairwise (· < ·)) : l.Nodup := h.imp fun h => by omega
theorem RR_ok {l : List Int} (h : l.Pairwise (· < ·)) (hu : ∀ x ∈ l, x < 900000) : Can 1000000 (RR l) ∧ ∀ x, inS (RR l) x ↔ x ∈ l := by
  obtain ⟨h1, h2⟩ := lrs_ok (u := 1000000) (srt_rev h) fun x hx => by have := hu x (List.mem_reverse.mp hx); omega
  exact ⟨h1, fun x => by rw [h2, List.mem_reverse]⟩
theorem any_mem {l : List Int} {n : Int} : l.any (· == n) = true ↔ n ∈ l := by
  rw [List.any_eq_true]
  constructor
  · rintro ⟨x, hx, e⟩
    have : x = n := by simpa using e
    exact this ▸ hx
  · intro h; exact ⟨n, h, by simp⟩
namespace LotOk
variable {ns : List Int} {b : Int}
theorem up (h : LotOk ns b) : ∀ x ∈ ns, x < 900000 := fun x hx => by have := h.mem x hx; have := h.b1; omega
theorem rr (h : LotOk ns b) : Can 1000000 (RR ns) ∧ ∀ x, inS (RR ns) x ↔ x ∈ ns := RR_ok h.srt h.up
theorem low (h : LotOk ns b) : ∀ p ∈ RR ns, 0 ≤ p.1 := fun p hp => by
  have key : ∀ (rs : List (Int × Int)) (u : Int), Can u rs → ∀ p ∈ rs, p.1 ≤ p.2 := by
    intro rs
    induction rs with
    | nil => intro _ _ p hp; cases hp
    | cons q r ih =>
      intro u hc p hp
      rcases List.mem_cons.mp hp with rfl | hp
      · exact hc.1
      · exact ih _ hc.2.2 p hp
  have h1 := key _ _ h.rr.1 p hp
  have h2 := (h.rr.2 p.1).mp ⟨p, hp, Int.le_refl _, h1⟩
  have := h.mem _ h2
  have := h.b0
  omega
theorem len' (h : LotOk ns b) : (RR ns).length ≤ 10 := by
  have h1 := lrs_len ns.reverse
  have h2 := h.len
  rw [List.length_reverse] at h1
  exact Nat.le_trans h1 h2
theorem add_in (h : LotOk ns b) {n : Int} (hn : n < 900000) (hm : n ∈ ns) : addGo n n false (RR ns) = RR ns := by
  obtain ⟨h1, h2⟩ := h.rr
  obtain ⟨g1, g2⟩ := addF (low := n) (high := n) (u := 1000000) (Int.le_refl _) (by omega) h1
  refine Can.uniq g1 h1 fun x => ?_
  rw [g2, h2]
  constructor
  · rintro (q | q)
    · have : x = n := by omega
      exact this ▸ hm
    · exact q
  · exact Or.inr
theorem add_out (h : LotOk ns b) {n : Int} (hn : n < 900000) (hm : n ∉ ns) : addGo n n false (RR ns) = RR (ins n ns) := by
  obtain ⟨h1, h2⟩ := h.rr
  obtain ⟨g1, g2⟩ := addF (low := n) (high := n) (u := 1000000) (Int.le_refl _) (by omega) h1
  obtain ⟨k1, k2⟩ := RR_ok (ins_srt h.srt hm) fun x hx => by
    rcases ins_mem.mp hx with rfl | hx
    · exact hn
    · exact h.up x hx
  refine Can.uniq g1 k1 fun x => ?_
  rw [g2, h2, k2, ins_mem]
  constructor
  · rintro (q | q)
    · exact Or.inl (by omega)
    · exact Or.inr q
  · rintro (q | q)
    · exact Or.inl ⟨by omega, by omega⟩
    · exact Or.inr q
theorem prune_eq (h : LotOk ns b) (n : Int) : pruneL n (RR ns) = RR (ns.filter fun x => decide (n ≤ x)) := by
  obtain ⟨h1, h2⟩ := h.rr
  obtain ⟨g1, g2⟩ := prune_ok (low := n) h1
  obtain ⟨k1, k2⟩ := RR_ok (l := ns.filter fun x => decide (n ≤ x)) (h.srt.sublist List.filter_sublist) fun x hx => h.up x (List.mem_filter.mp hx).1
  refine Can.uniq g1 k1 fun x => ?_
  rw [g2, h2, k2, List.mem_filter]
  simp
theorem has_eq (h : LotOk ns b) (n : Int) : hasN (RR ns) n = ns.any (· == n) := by
  rw [Bool.eq_iff_iff, hasN_iff, h.rr.2, any_mem]
theorem count_eq (h : LotOk ns b) : ((RR ns).map fun p => p.2 - p.1 + 1).sum = (ns.length : Int) := by
  rw [lrs_count]; simp
theorem are (h : LotOk ns b) : areGo none (RR ns) = true := are_ok0 h.rr.1 h.low
theorem near (h : LotOk ns b) {a : Int} (ha : a ≤ b) (ha' : b ≤ a + 10) : ns.Perm ((W.rangeKs a (b + 11 - a).toNat).reverse.filter (hasN (RR ns))) := by
  have hnd : (W.rangeKs a (b + 11 - a).toNat).Nodup := by
    unfold W.rangeKs
    rw [List.Nodup, List.pairwise_map]
    exact (List.nodup_range).imp fun {x y} hxy => by omega
  refine (List.perm_ext_iff_of_nodup (srt_nodup h.srt) ?_).mpr fun x => ?_
  · refine List.Pairwise.sublist List.filter_sublist ?_
    exact List.pairwise_reverse.mpr (hnd.imp fun h => Ne.symm h)
  · rw [List.mem_filter, List.mem_reverse, hasN_iff, h.rr.2]
    constructor
    · intro hx
      refine ⟨?_, hx⟩
      have := h.mem x hx
      unfold W.rangeKs
      exact List.mem_map.mpr ⟨(x - a).toNat, List.mem_range.mpr (by omega), by omega⟩
    · exact fun q => q.2
end LotOk
theorem okD_lst {ds : List Dt} (h : ∀ d ∈ ds, W.kqdOk 7 (toDat d) = true) : okD (.lst ds) := by
  unfold okD
  rw [toDat, W.kqdOk, List.all_eq_true, toDats_eq]
  intro x hx
  obtain ⟨d, hd, rfl⟩ := List.mem_map.mp hx
  exact h d hd
theorem kqd_lst {ds : List Dt} {n : Nat} (h : ∀ d ∈ ds, W.kqdOk n (toDat d) = true) : W.kqdOk (n + 1) (toDat (.lst ds)) = true := by
  rw [toDat, W.kqdOk, List.all_eq_true, toDats_eq]
  intro x hx
  obtain ⟨d, hd, rfl⟩ := List.mem_map.mp hx
  exact h d hd
theorem cut_mem {α : Type} {l : List α} {a b : Option Int} {x : α} (h : x ∈ cut l a b) : x ∈ l := List.mem_of_mem_drop (List.mem_of_mem_take h)
theorem kqd_rng {rs : List (Int × Int)} {n : Nat} {d : Dt} (h : d ∈ rng rs) : W.kqdOk (n + 1) (toDat d) = true := by
  obtain ⟨p, _, rfl⟩ := List.mem_map.mp h
  exact kqd_pr _ _
section
variable {σ : Type} {C : Cx σ} {ρ ρ' : Ro} {fo : Option (List Dt)} {st st1 st2 : σ} {e : Expr} {b b' : Bool} {d d' : Dt} {ds es : List Dt} {P : Post σ} {ns : List Int} {bs : Int}
theorem stor_cell {n x : Str} {sc : Scope} {L a : Addr} {cd : Value} (h : sc.names.lookup x = some .cell) : stor (C.callee n sc L a cd) x := Or.inr ⟨h, cellsFrom_has (mem_of_lookup h)⟩
theorem fn_rr (W : Wd C) (hl : 1 ≤ C.lv) (h : LotOk ns bs) : FnOk C "_law_ranges" [.lst (dints ns)] st (.lst (rng (RR ns))) st :=
  fn_law_ranges W hl ns ns (by have := h.len; omega) (.refl _) (srt_le h.srt)
theorem Tst.isIn {x lx : Str} {p1 p2 pos : Pos} {n : Int} (hx : ρ.get x = some (.int n)) (hl : ρ.get lx = some (.lst (dints ns))) (h1 : (x == ("__debug__" : Str)) = false) (h2 : (lx == ("__debug__" : Str)) = false) :
    Tst C ρ fo st (.Compare (.Name x p1) [.NotIn] [.Name lx p2] pos) (!ns.any (· == n)) st := Tst.cmp (Ev.name hx h1) (Ev.name hl h2) (.niL _ _ _ (unints_dints _))
noncomputable def lotRo (ns : List Int) (bs : Int) (x y : Option Dt) : Ro := [("lot", some (.lst (dints ns))), ("base", some (.int bs)), ("some", some (.lst (rng (RR ns)))), ("number", x), ("near", y)]
theorem fn_law_lot_right (W : Wd C) (hl : 5 ≤ C.lv) (h : LotOk ns bs) : FnOk C "_law_lot_right" [.lst (dints ns), .int bs] st (.bool true) st := by
  refine FnOk.of_body (i := 33) (ps := [("lot", .lst (dints ns)), ("base", .int bs)]) W rfl (by decide) (by omega) rfl (fun pm cd doc vs h => by match vs, h with | [a, b], _ => rfl) fun L' a cd => ?_
  have hl1 : 1 ≤ C.lv - 1 := by omega
  have hl2 : 2 ≤ C.lv - 1 := by omega
  have b0 := h.b0
  have b1 := h.b1
  have hlen := h.len
  refine Exs.cons (Ex.assign (Ev.callF (Es.cons (Ev.name rfl) Es.nil) (fn_rr W.callee hl1 h)) (stor_cell rfl) (Or.inr rfl) rfl ?_)
  obtain ⟨a0, ha0, ha1⟩ : ∃ a0, (if bs - 2 > 0 then bs - 2 else 0) = a0 ∧ 0 ≤ a0 ∧ a0 ≤ bs ∧ bs - 2 ≤ a0 := ⟨_, rfl, by split <;> omega⟩
  obtain ⟨n, hn⟩ : ∃ n : Nat, Builtin.Range.rangeSize a0 (bs + 12) 3 = (n : Int) := by
    refine ⟨(Builtin.Range.rangeSize a0 (bs + 12) 3).toNat, ?_⟩
    have : 0 ≤ Builtin.Range.rangeSize a0 (bs + 12) 3 := by
      unfold Builtin.Range.rangeSize
      rw [if_pos (by decide)]
      split <;> omega
    omega
  have hn' : n ≤ 100 := by
    have : Builtin.Range.rangeSize a0 (bs + 12) 3 ≤ 100 := by
      unfold Builtin.Range.rangeSize
      rw [if_pos (by decide)]
      split <;> omega
    omega
  refine Exs.cons (Ex.forM (f := fun (i : Nat) => Dt.int (a0 + (i : Int) * 3)) (xs := List.range n)
    (It.range3 (Es.cons (Ev.as (Ev.callB rfl (Es.cons Ev.cint (Es.cons (Ev.bin (Ev.name rfl) Ev.cint (.subI _ _)) Es.nil)) (.max2 _ _)) (congrArg Dt.int ha0)) (Es.cons (Ev.bin (Ev.name rfl) Ev.cint (.addI _ _)) (Es.cons Ev.cint Es.nil))) (by omega) (by omega) (Or.inr (Or.inl rfl)) hn (by omega))
    (fun r ρ fo st' => fo = none ∧ st' = st ∧ (∃ x, ρ = lotRo ns bs x none) ∧ ∀ i ∈ r, i < 100) ⟨rfl, rfl, ⟨none, rfl⟩, fun i hi => by have := List.mem_range.mp hi; omega⟩ ?_ ?_)
  · rintro i r ρ fo st' ⟨rfl, rfl, ⟨x, rfl⟩, hr⟩
    have hi := hr i List.mem_cons_self
    generalize hnn : a0 + (i : Int) * 3 = n
    have hnlt : n < 900000 := by omega
    refine ⟨_, .name (stor_cell rfl) (Or.inr rfl) rfl, ?_⟩
    have hW : Wd (C.callee "_law_lot_right" (dS 33) L' a cd) := W.callee
    have l10 := h.len'
    refine Exs.cons (Ex.ite_f (st1 := st') ?t1 (Exs.nil ?r1))
    case t1 =>
      by_cases hm : n ∈ ns
      · have hany : ns.any (· == n) = true := any_mem.mpr hm
        have ha := fn_add_number (st := st') hW hl1 n (RR ns) (by omega)
        rw [h.add_in hnlt hm] at ha
        exact Tst.cmp (Ev.callF (Es.cons (Ev.name rfl) (Es.cons (Ev.name rfl) Es.nil)) ha) (Ev.callF (Es.cons (Ev.ite_f (Tst.as (Tst.isIn rfl rfl (by decide) (by decide)) (by rw [hany]; rfl)) (Ev.name rfl)) Es.nil) (fn_rr hW hl1 h)) (.neD _ (okD_rng _))
      · have hany : ns.any (· == n) = false := by rw [Bool.eq_false_iff]; exact fun z => hm (any_mem.mp z)
        have ha := fn_add_number (st := st') hW hl1 n (RR ns) (by omega)
        rw [h.add_out hnlt hm] at ha
        have hr := fn_law_ranges (st := st') hW hl1 (ns ++ [n]) (ins n ns) (by simp; omega) ins_perm (srt_le (ins_srt h.srt hm))
        rw [show dints (ns ++ [n]) = dints ns ++ [.int n] by simp [dints]] at hr
        exact Tst.cmp (Ev.callF (Es.cons (Ev.name rfl) (Es.cons (Ev.name rfl) Es.nil)) ha) (Ev.callF (Es.cons (Ev.ite_t (Tst.as (Tst.isIn rfl rfl (by decide) (by decide)) (by rw [hany]; rfl)) (Ev.bin (Ev.name rfl) (Ev.list (Es.cons (Ev.name rfl) Es.nil)) (.addL _ _ (by simp [dints]; unfold lim; omega)))) Es.nil) hr) (.neD _ (okD_rng _))
    refine Exs.cons (Ex.ite_f (st1 := st') ?t2 (Exs.nil ?r2))
    case t2 =>
      have hp := fn_prune (st := st') hW hl1 n (RR ns)
      rw [h.prune_eq n] at hp
      have hs : (ns.filter fun x => decide (n ≤ x)).Pairwise (· < ·) := h.srt.sublist List.filter_sublist
      have hr := fn_law_ranges (st := st') hW hl1 (ns.filter fun x => decide (n ≤ x)) (ns.filter fun x => decide (n ≤ x)) (Nat.lt_of_le_of_lt (List.length_filter_le _ _) (by omega)) (.refl _) (srt_le hs)
      refine Tst.cmp (Ev.callF (Es.cons (Ev.name rfl) (Es.cons (Ev.name rfl) Es.nil)) hp) (Ev.callF (Es.cons (Ev.as (Ev.comp (It.list (Ev.name rfl)) (Cmp.filt (f := Dt.int) (g := fun x => if decide (n ≤ x) = true then some (Dt.int x) else none) fun x hx L'' => ⟨_, .name (Or.inl rfl) (Or.inr rfl) rfl, ?_⟩) fun x c h => PySem.mem_of_lookup h) ?_) Es.nil) hr) (.neD _ (okD_rng _))
      · by_cases hx : n ≤ x
        · rw [if_pos (decide_eq_true hx)]
          exact ⟨st', Tif.one (Tst.cmp (Ev.name rfl) (Ev.name rfl) (ge_t hx)), Ev.name rfl⟩
        · rw [if_neg (by simpa using hx)]
          exact Tif.one (Tst.cmp (Ev.name rfl) (Ev.name rfl) (ge_f hx))
      · rw [filt_some]; rfl
    refine Exs.cons (Ex.ite_f (Tst.as (Tst.cmp (Ev.callF (Es.cons (Ev.name rfl) (Es.cons (Ev.name rfl) Es.nil)) (fn_has_number hW hl1 n (RR ns))) (Ev.cmp (Ev.name rfl) (Ev.name rfl) (.inL _ _ _ (unints_dints _))) (.neB _ _)) (by rw [h.has_eq]; simp)) (Exs.nil ?_))
    exact Exs.nil ⟨rfl, rfl, ⟨_, rfl⟩, fun i hi => hr i (List.mem_cons_of_mem _ hi)⟩
  · rintro ρ fo st' ⟨rfl, rfl, ⟨x, rfl⟩, _⟩
    have hW : Wd (C.callee "_law_lot_right" (dS 33) L' a cd) := W.callee
    have l10 := h.len'
    obtain ⟨a1, hb0, hb1⟩ : ∃ a1, (if bs - 1 > 0 then bs - 1 else 0) = a1 ∧ 0 ≤ a1 ∧ a1 ≤ bs ∧ bs - 1 ≤ a1 := ⟨_, rfl, by split <;> omega⟩
    refine Exs.cons (Ex.assign (Ev.listRange (Es.cons (Ev.as (Ev.callB rfl (Es.cons Ev.cint (Es.cons (Ev.bin (Ev.name rfl) Ev.cint (.subI _ _)) Es.nil)) (.max2 _ _)) (congrArg Dt.int hb0)) (Es.cons (Ev.bin (Ev.name rfl) Ev.cint (.addI _ _)) Es.nil)) (by omega) (by omega)) (Or.inl rfl) (Or.inr rfl) rfl ?_)
    have hn := fn_newly_acked (st := st') hW hl2 (PySem.W.rangeKs a1 (bs + 11 - a1).toNat).reverse ns (RR ns) (by simp [PySem.W.rangeKs]; omega) (h.near (by omega) (by omega)) (srt_le h.srt)
    rw [show dints (PySem.W.rangeKs a1 (bs + 11 - a1).toNat).reverse = (dints (PySem.W.rangeKs a1 (bs + 11 - a1).toNat)).reverse by simp [dints]] at hn
    have hc := fn_count_of (st := st') hW hl1 (RR ns)
    rw [h.count_eq] at hc
    have har := fn_are_right (st := st') hW hl1 (RR ns) (by omega)
    rw [h.are] at har
    refine Exs.cons (Ex.ite_f (Tst.or_f (Tst.cmp (Ev.callF (Es.cons (Ev.rev (Ev.name rfl) (Ev.neg Ev.cint)) (Es.cons (Ev.name rfl) Es.nil)) hn) (Ev.callB rfl (Es.cons (Ev.name rfl) Es.nil) (.sortL _ ns ns (unints_dints _) (by omega) (.refl _) (srt_le h.srt))) (.neD _ (okD_dints _)))
      (Tst.or_f (Tst.cmp (Ev.callF (Es.cons (Ev.name rfl) Es.nil) hc) (Ev.callB rfl (Es.cons (Ev.name rfl) Es.nil) (.lenL _)) (ne_f (by simp [dints])))
        (Tst.or_f (Tst.not_f (Tst.plain (Ev.callF (Es.cons (Ev.name rfl) Es.nil) har))) Tst.or_0))) (Exs.nil ?_))
    have hlg := fn_largest (st := st') hW hl1 (RR ns)
    refine Exs.cons (Ex.ite_f (st1 := st') ?t3 (Exs.nil ?r3))
    case t3 =>
      cases hns : ns.reverse with
      | nil =>
        have hns' : ns = [] := by simpa using hns
        subst hns'
        exact Tst.cmp (Ev.callF (Es.cons (Ev.name rfl) Es.nil) hlg) (Ev.ite_f (Tst.cmp (Ev.name rfl) (Ev.list Es.nil) (.neL _ (okD_dints _))) Ev.cnone) .neN
      | cons y r =>
        obtain ⟨l, r', hr'⟩ := lrF_head r y y
        have hrr : RR ns = (l, y) :: r' := by unfold RR; rw [hns]; exact hr'
        rw [hrr] at hlg
        have hy : y ∈ ns := List.mem_reverse.mp (hns ▸ List.mem_cons_self)
        have hmx : ∀ z ∈ ns, z ≤ y := fun z hz => by
          have hz' : z ∈ y :: r := hns ▸ List.mem_reverse.mpr hz
          have hp := srt_rev h.srt
          rw [hns, List.pairwise_cons] at hp
          rcases List.mem_cons.mp hz' with rfl | hz'
          · exact Int.le_refl _
          · have := hp.1 z hz'; omega
        have hne : (!(dints ns).isEmpty) = true := by
          cases hnn : ns with
          | nil => rw [hnn] at hy; cases hy
          | cons _ _ => rfl
        have hρ : (lotRo ns bs x (some (.lst (dints (PySem.W.rangeKs a1 (bs + 11 - a1).toNat))))).get "some" = some (.lst (rng ((l, y) :: r'))) := by
          show some (Dt.lst (rng (RR ns))) = _
          rw [hrr]
        exact Tst.cmp (Ev.callF (Es.cons (Ev.name hρ) Es.nil) hlg) (Ev.ite_t (Tst.as (Tst.cmp (Ev.name rfl) (Ev.list Es.nil) (.neL _ (okD_dints _))) hne) (Ev.callB rfl (Es.cons (Ev.name rfl) Es.nil) (.maxL _ ns y (unints_dints _) hy hmx))) (ne_f rfl)
    have c1 : okD (.lst ([0, 1, 2, 3].map fun k : Int => Dt.lst (cut (rng (RR ns)) none (some k)))) := okD_lst fun d hd => by
      obtain ⟨k, _, rfl⟩ := List.mem_map.mp hd
      exact kqd_lst fun d hd => kqd_rng (cut_mem hd)
    refine Exs.cons (Ex.ret (Ev.cmp (Ev.comp (es := [0, 1, 2, 3].map fun k : Int => Dt.lst (cut (rng (RR ns)) none (some k))) (It.range1 (Es.cons Ev.cint Es.nil) (by decide) (by decide)) (Cmp.map (f := Dt.int) (xs := [0, 1, 2, 3]) fun k hk L'' => ⟨_, .name (Or.inl rfl) (Or.inr rfl) rfl, st', Tif.nil, Ev.callF (Es.cons (Ev.name rfl) (Es.cons (Ev.name rfl) Es.nil)) (fn_ack_of hW.comp hl1 _ _)⟩) fun x c h => PySem.mem_of_lookup h)
      (Ev.comp (es := [0, 1, 2, 3].map fun k : Int => Dt.lst (cut (rng (RR ns)) none (some k))) (It.range1 (Es.cons Ev.cint Es.nil) (by decide) (by decide)) (Cmp.map (f := Dt.int) (xs := [0, 1, 2, 3]) fun k hk L'' => ⟨_, .name (Or.inl rfl) (Or.inr rfl) rfl, st', Tif.nil, Ev.sliceL (Ev.name rfl) Eo.none (Eo.some (Ev.name rfl))⟩) fun x c h => PySem.mem_of_lookup h) (.eqD _ c1)) ⟨rfl, rfl⟩)
end
end Mine
end
section
open PySem PyProof.Rows
set_option linter.unusedVariables false
set_option linter.unusedSimpArgs false
namespace Mine
noncomputable def boxS (bx ba : Addr) (xs : List Int) (n : Nat) (h : Heap) : Prop := (∃ t k, h.get? bx = some (lobj [.ref ba, .int (n : Int) t] k)) ∧ ∃ vs k, h.get? ba = some (lobj vs k) ∧ IntsAre vs xs
structure BoxC (C : Cx Nat) (bx ba : Addr) (xs : List Int) : Prop where
  fp : C.fp = [bx, ba]
  ne : bx ≠ ba
  h0 : C.hv 0 = .ref bx
  h1 : C.hv 1 = .ref ba
  sg : C.Sg = boxS bx ba xs
  len : xs.length ≤ 1000
theorem set1_exactK {s : Shared} {prog : Program} {w : World} {A : Around} {l : Addr} {vs : List Value} {n : Nat} {k : Int} {x : Value} {t : Tok} {Q : Unit → Shared → Prop} {E : Value → Shared → Prop} (h0 : 0 ≤ k) (hj : k < vs.length) (hfit : k < 2 ^ 63) (hl : s.heap.get? l = some (lobj vs n))
    (q : ∀ h' n', h'.get? l = some (lobj (vs.set k.toNat x) n') → Heap.SameBut l s.heap h' → Q () { s with heap := h' }) : wpAny (model prog w) A (setItem (.ref l) (.int k t) x) Q E s := by
  have hT : s.TypeIs (.ref l) "list" := ⟨_, hl, rfl⟩
  have hd : (lobj vs n).data = .seq vs.toArray n := rfl
  unfold setItem
  try with_reducible refine wpAny_holding ?_
  first | refine wpAny_bind (wpAny_pure ?_) | skip
  refine wpAny_bind (wpAny_sequenceKey hT (by decide) ?_)
  refine wpAny_bind (wpAny_callSpecial?_slot (name := Str.ofString "__setitem__") hT slot_list_setitem
    (wpAny_call_entry slot_list_setitem hT entry_list_setitem ?_ (args_list_setitem _ _ _)))
  show wpAny _ _ (Builtin.List.listSubscript? (.int k t) >>= _) _ _ s
  refine wpAny_bind (wpAny_listSubscript_int (fitsIndex_of h0 hfit) ?_)
  clear hfit
  obtain ⟨j, rfl⟩ := Int.eq_ofNat_of_zero_le h0
  have hj' : j < vs.length := by omega
  have hx' : vs.toArray[j]? = some (vs[j]'hj') := by simp [hj']
  show wpAny _ _ ((seqItemAt l j >>= fun r => pure (r.map (j, ·))) >>= _) _ _ s
  refine wpAny_bind (wpAny_bind (wpAny_seqItemAt hl hd (wpAny_pure ?_)))
  rw [hx']
  show wpAny _ _ (setSeqItemAt l j x >>= _) _ _ s
  refine wpAny_bind (wpAny_setSeqItemAt hl hd ?_)
  have hfin : ∃ n', (s.heap.update l (Obj.mapSeq (·.setIfInBounds j x))).get? l = some (lobj (vs.set j x) n') := by
    rw [Heap.get?_update_self _ hl (by rfl)]
    exact ⟨_, by simp only [Obj.mapSeq, lobj, List.setIfInBounds_toArray]; rfl⟩
  obtain ⟨n', hfin⟩ := hfin
  first
    | exact wpAny_bind (wpAny_pure (wpAny_pure ⟨.none, rfl, wpAny_pure (q _ n' hfin (Heap.SameBut.update ..))⟩))
    | exact wpAny_pure ⟨.none, rfl, wpAny_pure (q _ n' hfin (Heap.SameBut.update ..))⟩
theorem set1_exact {s : Shared} {prog : Program} {w : World} {A : Around} {l : Addr} {a b : Value} {n : Nat} {x : Value} {t : Tok} {Q : Unit → Shared → Prop} {E : Value → Shared → Prop} (hl : s.heap.get? l = some (lobj [a, b] n))
    (q : ∀ h' n', h'.get? l = some (lobj [a, x] n') → Heap.SameBut l s.heap h' → Q () { s with heap := h' }) : wpAny (model prog w) A (setItem (.ref l) (.int 1 t) x) Q E s := set1_exactK (vs := [a, b]) (k := 1) (by decide) (by show (1 : Int) < 2; decide) (by decide) hl q
section
variable {σ : Type} {C : Cx σ} {ρ ρ' : Ro} {fo : Option (List Dt)} {st st1 st2 : σ} {B : Heap} {mu : List Addr} {K₀ : Kn} {fa : Addr} {K : Kn} {h h' : Heap}
/-- an object of the footprint changed -/
theorem St.effect {a : Addr} (S : St C B mu K₀ fa ρ fo K st h) (ha : a ∈ C.fp) (hs : Heap.SameBut a h h') (hp : (h'.get? a).isSome = true) (hc : ∀ v, ¬ h.IsCell a v) (sg : C.Sg st1 h') : St C B mu K₀ fa ρ fo K st1 h' := by
  have ks : ∀ b, (h.get? b).isSome = true → (h'.get? b).isSome = true := fun b hb => by
    by_cases e : b = a
    · rw [e]; exact hp
    · rw [hs.2 b e]; exact hb
  have kf : K a = none := (S.mt a (List.mem_append.mpr (.inr ha))).1
  have nd := S.nd
  have off : ∀ b ∈ ownL C fa fo, b ≠ a := fun b hb e => by
    rw [List.nodup_append] at nd
    exact nd.2.2 b hb a ha e
  obtain ⟨m, hm, hr, hf⟩ := S.fr
  have fc : ∀ c v, h.IsCell c v → h'.IsCell c v := fun c v i => i.sameBut hs fun e => hc v (e ▸ i)
  have lk : ∀ x v, Look C m h x v → Look C m h' x v := fun x v l => l.imp id fun ⟨a, c, b, i⟩ => ⟨a, c, b, fc _ _ i⟩
  exact {
    ok := S.ok
    base := fun b o e hb hf' => (hs.2 b (fun z => hf' (z ▸ ha))).trans (S.base b o e hb hf')
    ex := fun b hb => ks b (S.ex b hb)
    kx := S.kx
    kn := fun b o e => (hs.2 b (fun z => by rw [z, kf] at e; cases e)).trans (S.kn b o e)
    top := S.top
    mt := fun b hb => ⟨(S.mt b hb).1, ks b (S.mt b hb).2⟩
    ow := S.ow
    nd := S.nd
    fr := ⟨m, hm.sameBut hs (off _ St.L_mem), fun x d e => let ⟨v, l, r⟩ := hr x d e; ⟨v, lk x v l, r⟩, fun ds e => lk _ _ (hf ds e)⟩
    fl := fun ds e => let ⟨vs, n, g, r⟩ := S.fl ds e; ⟨vs, n, (hs.2 fa (off fa (by subst e; simp [ownL]))).trans g, r⟩
    ce := fun p hp => let ⟨v, i⟩ := S.ce p hp; ⟨v, fc _ _ i⟩
    sg := sg }
end
section
variable {C : Cx Nat} {ρ ρ' : Ro} {fo : Option (List Dt)} {n n1 n2 : Nat} {P : Post Nat} {bx ba : Addr} {xs : List Int} {e ie : Expr} {pos p p1 p2 : Pos}
theorem Rd.hd_inv {hv : Nat → Value} {K : Kn} {v : Value} {k : Nat} (h : Rd hv K v (.hd k)) : v = hv k := by cases h with | hd _ e => exact e
theorem BoxC.callee (X : BoxC C bx ba xs) {n : Str} {sc : Scope} {L a : Addr} {cd : Value} : BoxC (C.callee n sc L a cd) bx ba xs := ⟨X.fp, X.ne, X.h0, X.h1, X.sg, X.len⟩
theorem Ev.box1 (X : BoxC C bx ba xs) (he : Ev C ρ fo n e (.hd 0) n) (hi : Ev C ρ fo n ie (.int 1) n) (hs : noSlice ie = true := by rfl) : Ev C ρ fo n (.Subscript e ie pos) (.int (n : Int)) n :=
  fun B mu K₀ fa K s Q E S h => Subscript_ (he B mu K₀ fa K s _ E S fun u h1 tk1 K1 k1 S1 r1 => hi B mu K₀ fa K1 _ _ E S1 fun v h2 tk2 K2 k2 S2 r2 => by
    obtain ⟨t, rfl⟩ := r2.int_inv
    rw [r1.hd_inv, X.h0]
    have sg := S2.sg
    rw [X.sg] at sg
    obtain ⟨⟨t', k, g⟩, _⟩ := sg
    exact getItem_listR (s := { s with heap := h2, toks := tk2 }) (vs := [.ref ba, .int (n : Int) t']) ⟨_, g, rfl, k, rfl⟩ (by decide) (by decide) (j := 1) rfl rfl hs (h _ h2 tk2 K2 (k1.trans k2) S2 (.int ..)))
theorem Ev.box0 (X : BoxC C bx ba xs) (he : Ev C ρ fo n e (.hd 0) n) (hi : Ev C ρ fo n ie (.int 0) n) (hs : noSlice ie = true := by rfl) : Ev C ρ fo n (.Subscript e ie pos) (.hd 1) n :=
  fun B mu K₀ fa K s Q E S h => Subscript_ (he B mu K₀ fa K s _ E S fun u h1 tk1 K1 k1 S1 r1 => hi B mu K₀ fa K1 _ _ E S1 fun v h2 tk2 K2 k2 S2 r2 => by
    obtain ⟨t, rfl⟩ := r2.int_inv
    rw [r1.hd_inv, X.h0]
    have sg := S2.sg
    rw [X.sg] at sg
    obtain ⟨⟨t', k, g⟩, _⟩ := sg
    exact getItem_listR (s := { s with heap := h2, toks := tk2 }) (vs := [.ref ba, .int (n : Int) t']) ⟨_, g, rfl, k, rfl⟩ (by decide) (by decide) (j := 0) rfl rfl hs (h _ h2 tk2 K2 (k1.trans k2) S2 (.hd _ X.h1.symm)))
theorem Ev.itemBox (X : BoxC C bx ba xs) (he : Ev C ρ fo n e (.hd 1) n) {k a : Int} {j : Nat} (hi : Ev C ρ fo n ie (.int k) n) (hk : k = (j : Int)) (hj : xs[j]? = some a) (hs : noSlice ie = true := by rfl) : Ev C ρ fo n (.Subscript e ie pos) (.int a) n :=
  fun B mu K₀ fa K s Q E S h => Subscript_ (he B mu K₀ fa K s _ E S fun u h1 tk1 K1 k1 S1 r1 => hi B mu K₀ fa K1 _ _ E S1 fun v h2 tk2 K2 k2 S2 r2 => by
    obtain ⟨t, rfl⟩ := r2.int_inv
    rw [r1.hd_inv, X.h1]
    have sg := S2.sg
    rw [X.sg] at sg
    obtain ⟨_, vs, c, g, hi⟩ := sg
    have hr : Rds C.hv K2 vs (dints xs) := intsAre_rds hi
    have hlt : j < xs.length := (List.getElem?_eq_some_iff.mp hj).1
    obtain ⟨x, hx, rx⟩ := hr.get (i := j) (d := .int a) (by simp [dints, hj])
    have hlen : vs.length = xs.length := by rw [hr.length]; simp [dints]
    have := X.len
    exact getItem_listR (s := { s with heap := h2, toks := tk2 }) (vs := vs) ⟨_, g, rfl, c, rfl⟩ (by omega) (by omega) (j := j) (by rw [hlen, seqIndex_of (by omega) (by omega)]; congr 1; omega) hx hs (h _ h2 tk2 K2 (k1.trans k2) S2 rx))
theorem Ev.lenBox (X : BoxC C bx ba xs) (he : Ev C ρ fo n e (.hd 1) n) (hk : C.env.kindOf "len" = some .globalImplicit := by rfl) (hs : noStar e = true := by rfl) : Ev C ρ fo n (.Call (.Name "len" p) [e] [] pos) (.int (xs.length : Int)) n :=
  fun B mu K₀ fa K s Q E S h => wpAny_Call_NameR (S.builtName hk (S.ok.bl "len" (.builtin "len") rfl).1 (S.ok.bl "len" (.builtin "len") rfl).2 (Calls.callWith_builtin (by rw [starEach_cons hs]; rfl) (evalArgs_ns (by rw [starEach_cons hs]; rfl) ((Es.cons he Es.nil hs) pos B mu K₀ fa K s _ E S fun us h1 tk1 K1 k1 S1 r1 => by
    obtain ⟨u, ru, rfl⟩ := r1.one'
    rw [ru.hd_inv, X.h1]
    have sg := S1.sg
    rw [X.sg] at sg
    obtain ⟨_, vs, c, g, hi⟩ := sg
    have hlen : vs.length = xs.length := by rw [(intsAre_rds (hv := C.hv) (K := K1) hi).length]; simp [dints]
    have := X.len
    exact len_list (s := { s with heap := h1, toks := tk1 }) (items := vs.toArray) ⟨_, g, rfl, c, rfl⟩ (by rw [List.size_toArray, hlen]; omega) (by
      rw [List.size_toArray, hlen]; exact h _ h1 _ K1 k1 S1 (.int ..))))) (by decide))
theorem Ev.abs {σ : Type} {C : Cx σ} {ρ : Ro} {fo : Option (List Dt)} {st st1 : σ} {a : Int} (he : Ev C ρ fo st e (.int a) st1) (hk : C.env.kindOf "abs" = some .globalImplicit := by rfl) (hs : noStar e = true := by rfl) : Ev C ρ fo st (.Call (.Name "abs" p) [e] [] pos) (.int (if a < 0 then -a else a)) st1 :=
  fun B mu K₀ fa K s Q E S h => wpAny_Call_NameR (S.builtName hk (S.ok.bl "abs" (.builtin "abs") rfl).1 (S.ok.bl "abs" (.builtin "abs") rfl).2 (Calls.callWith_builtin (by rw [starEach_cons hs]; rfl) (evalArgs_ns (by rw [starEach_cons hs]; rfl) ((Es.cons he Es.nil hs) pos B mu K₀ fa K s _ E S fun us h1 tk1 K1 k1 S1 r1 => by
    obtain ⟨u, ru, rfl⟩ := r1.one'
    obtain ⟨t, rfl⟩ := ru.int_inv
    exact call_abs_int (s := { s with heap := h1, toks := tk1 }) fun u tk => h _ h1 tk K1 k1 S1 (.int ..)))) (by decide))
theorem Ex.boxSet (X : BoxC C bx ba xs) {value : Expr} {spos : Pos} (hv : Ev C ρ fo n value (.int ((n1 : Nat) : Int)) n) (he : Ev C ρ fo n e (.hd 0) n) (hi : Ev C ρ fo n ie (.int 1) n) (h : P .next ρ fo n1)
    (hs : swapsWith value (some (.Subscript e ie spos)) pos.line C.env = pure false := by rfl) : Ex C ρ fo n (.Assign [.Subscript e ie spos] value pos) P :=
  fun B mu K₀ fa K s Q E S q => wpAny_Assign_Subscript (hv B mu K₀ fa K s _ E S fun v h1 tk1 K1 k1 S1 r1 => he B mu K₀ fa K1 { s with heap := h1, toks := tk1 } _ E S1 fun w h2 tk2 K2 k2 S2 r2 => hi B mu K₀ fa K2 { s with heap := h2, toks := tk2 } _ E S2 fun u h3 tk3 K3 k3 S3 r3 => by
    obtain ⟨t, rfl⟩ := r3.int_inv
    obtain ⟨t1, rfl⟩ := r1.int_inv
    rw [r2.hd_inv, X.h0]
    have sg := S3.sg
    rw [X.sg] at sg
    obtain ⟨⟨t', k, g⟩, vs, c, g', hi'⟩ := sg
    refine set1_exact (s := { s with heap := h3, toks := tk3 }) g fun h4 n4 g4 hs4 => ?_
    refine q .next h4 tk3 K3 fa .next ρ fo n1 h ((k1.trans k2).trans k3) (S3.effect (a := bx) (by rw [X.fp]; simp) hs4 (by rw [g4]; rfl) (fun v i => ?_) ?_) trivial
    · obtain ⟨o, ho, hd⟩ := i
      have ho' : h3.get? bx = some o := ho
      rw [g] at ho'; cases ho'; cases hd
    · rw [X.sg]
      exact ⟨⟨_, _, g4⟩, vs, c, (hs4.2 ba (Ne.symm X.ne)).trans g', hi'⟩) hs
theorem fn_take (W : Wd C) (X : BoxC C bx ba xs) (hl : 1 ≤ C.lv) (many : Int) (hm : 0 < many) : ∃ r : Int, 0 ≤ r ∧ r < many ∧ FnOk C "_law_take" [.hd 0, .int many] n (.int r) (n + 1) := by
  have body : ∀ r : Int, (if n + 1 ≤ xs.length then ∃ a, xs[n]? = some a ∧ r = (if a < 0 then -a else a).fmod many else r = (7 * ((n + 1 : Nat) : Int) + ((n + 1 : Nat) : Int).fdiv 4).fmod many) → FnOk C "_law_take" [.hd 0, .int many] n (.int r) (n + 1) := fun r hr => by
    refine FnOk.of_body (i := 31) (ps := [("box", .hd 0), ("many", .int many)]) W rfl (by decide) (by omega) rfl (fun pm cd doc vs h => by match vs, h with | [a, b], _ => rfl) fun L' a cd => ?_
    have X' : BoxC (C.callee "_law_take" (dS 31) L' a cd) bx ba xs := X.callee
    have e1 : (n : Int) + 1 = ((n + 1 : Nat) : Int) := by push_cast; rfl
    refine Exs.cons (Ex.boxSet X' (n1 := n + 1) (Ev.as (Ev.bin (Ev.box1 X' (Ev.name rfl) Ev.cint) Ev.cint (.addI _ _)) (congrArg Dt.int e1)) (Ev.name rfl) Ev.cint ?_)
    by_cases hle : n + 1 ≤ xs.length
    · rw [if_pos hle] at hr
      obtain ⟨v, hv, rfl⟩ := hr
      exact Exs.cons (Ex.ite_t (Tst.cmp (Ev.box1 X' (Ev.name rfl) Ev.cint) (Ev.lenBox X' (Ev.box0 X' (Ev.name rfl) Ev.cint)) (le_t (by omega)))
        (Exs.cons (Ex.ret (Ev.bin (Ev.abs (Ev.itemBox X' (Ev.box0 X' (Ev.name rfl) Ev.cint) (j := n) (Ev.bin (Ev.box1 X' (Ev.name rfl) Ev.cint) Ev.cint (.subI _ _)) (by omega) hv)) (Ev.name rfl) (.modI _ _ hm)) ⟨rfl, rfl⟩)))
    · rw [if_neg hle] at hr
      subst hr
      exact Exs.cons (Ex.ite_f (Tst.cmp (Ev.box1 X' (Ev.name rfl) Ev.cint) (Ev.lenBox X' (Ev.box0 X' (Ev.name rfl) Ev.cint)) (le_f (by omega))) (Exs.nil
        (Exs.cons (Ex.ret (Ev.bin (Ev.bin (Ev.bin Ev.cint (Ev.box1 X' (Ev.name rfl) Ev.cint) (.mulI _ _ (Or.inl (by decide)))) (Ev.bin (Ev.box1 X' (Ev.name rfl) Ev.cint) Ev.cint (.divI _ _ (by decide) (by decide))) (.addI _ _)) (Ev.name rfl) (.modI _ _ hm)) ⟨rfl, rfl⟩))))
  by_cases hle : n + 1 ≤ xs.length
  · exact ⟨_, Int.fmod_nonneg_of_pos _ hm, Int.fmod_lt_of_pos _ hm, body _ (by rw [if_pos hle]; exact ⟨xs[n], by simp [show n < xs.length by omega], rfl⟩)⟩
  · exact ⟨_, Int.fmod_nonneg_of_pos _ hm, Int.fmod_lt_of_pos _ hm, body _ (by rw [if_neg hle])⟩
end
end Mine
end
section
open PySem PyProof.Rows
set_option linter.unusedVariables false
set_option linter.unusedSimpArgs false
namespace Mine
noncomputable def bent (low : Int) : List (List (Int × Int)) := [[(low, low + 1), (low - 2, low - 2)], [(low, low), (low - 1, low - 1)], [(low, low + 2), (low - 3, low)], [(low - 3, low - 3), (low, low)], [(low + 1, low)], [(-1, low)], [(low, low), (-2, -2)], [], [(0, 0)]]
theorem bent_ok (low : Int) (h : 5 ≤ low) (r : Nat) (hr : r < 9) : ∃ rs, (bent low)[r]? = some rs ∧ rs.length ≤ 2 ∧ areGo none rs = [(0 : Int), 7, 8].any (· == (r : Int)) := by
  match r, hr with
  | 0, _ => exact ⟨_, rfl, Nat.le_of_ble_eq_true rfl, by simp [areGo]; omega⟩
  | 1, _ => exact ⟨_, rfl, Nat.le_of_ble_eq_true rfl, by simp [areGo]⟩
  | 2, _ => exact ⟨_, rfl, Nat.le_of_ble_eq_true rfl, by simp [areGo]; omega⟩
  | 3, _ => exact ⟨_, rfl, Nat.le_of_ble_eq_true rfl, by simp [areGo]; omega⟩
  | 4, _ => exact ⟨_, rfl, Nat.le_of_ble_eq_true rfl, by simp [areGo]; omega⟩
  | 5, _ => exact ⟨_, rfl, Nat.le_of_ble_eq_true rfl, by simp [areGo]⟩
  | 6, _ => exact ⟨_, rfl, Nat.le_of_ble_eq_true rfl, by simp [areGo]⟩
  | 7, _ => exact ⟨_, rfl, Nat.le_of_ble_eq_true rfl, rfl⟩
  | 8, _ => exact ⟨_, rfl, Nat.le_of_ble_eq_true rfl, rfl⟩
section
variable {C : Cx Nat} {ρ ρ' : Ro} {fo : Option (List Dt)} {n n1 n2 : Nat} {P : Post Nat} {bx ba : Addr} {xs : List Int} {e ie : Expr} {pos p p1 p2 : Pos}
theorem fn_bent (W : Wd C) (X : BoxC C bx ba xs) (hl : 2 ≤ C.lv) (b : Int) (hb : 0 ≤ b) : FnOk C "_law_bent_right" [.hd 0, .int b] n (.bool true) (n + 1) := by
  refine FnOk.of_body (i := 34) (ps := [("box", .hd 0), ("base", .int b)]) W rfl (by decide) (by omega) rfl (fun pm cd doc vs h => by match vs, h with | [a, b], _ => rfl) fun L' a cd => ?_
  have hl1 : 1 ≤ C.lv - 1 := by omega
  have hW : Wd (C.callee "_law_bent_right" (dS 34) L' a cd) := W.callee
  obtain ⟨r, h0, h1, ht⟩ := fn_take (n := n) hW X.callee hl1 9 (by decide)
  obtain ⟨k, rfl⟩ := Int.eq_ofNat_of_zero_le h0
  obtain ⟨rs, hrs, hlen, hare⟩ := bent_ok (b + 5) (by omega) k (by omega)
  have har := fn_are_right (st := n + 1) hW hl1 rs (by omega)
  have hit : ((bent (b + 5)).map fun rs => Dt.lst (rng rs))[k]? = some (.lst (rng rs)) := by rw [List.getElem?_map, hrs]; rfl
  have tw : ∀ {x1 y1 x2 y2 : Expr} {p1 p2 p3 : Pos} {k1 k2 : Nat} {a1 a2 a3 a4 : Int} {ρ : Ro}, Ev (C.callee "_law_bent_right" (dS 34) L' a cd) ρ none n x1 (.int a1) n → Ev (C.callee "_law_bent_right" (dS 34) L' a cd) ρ none n y1 (.int a2) n → Ev (C.callee "_law_bent_right" (dS 34) L' a cd) ρ none n x2 (.int a3) n → Ev (C.callee "_law_bent_right" (dS 34) L' a cd) ρ none n y2 (.int a4) n →
      noStar x1 = true → noStar y1 = true → noStar x2 = true → noStar y2 = true →
      Ev (C.callee "_law_bent_right" (dS 34) L' a cd) ρ none n (.List [.Tuple [x1, y1] k1 p1, .Tuple [x2, y2] k2 p2] p3) (.lst (rng [(a1, a2), (a3, a4)])) n := fun h1 h2 h3 h4 s1 s2 s3 s4 =>
    Ev.list (Es.cons (Ev.tuple (Es.cons h1 (Es.cons h2 Es.nil s2) s1)) (Es.cons (Ev.tuple (Es.cons h3 (Es.cons h4 Es.nil s4) s3)) Es.nil))
  have on : ∀ {x1 y1 : Expr} {p1 p3 : Pos} {k1 : Nat} {a1 a2 : Int} {ρ : Ro}, Ev (C.callee "_law_bent_right" (dS 34) L' a cd) ρ none n x1 (.int a1) n → Ev (C.callee "_law_bent_right" (dS 34) L' a cd) ρ none n y1 (.int a2) n → noStar x1 = true → noStar y1 = true →
      Ev (C.callee "_law_bent_right" (dS 34) L' a cd) ρ none n (.List [.Tuple [x1, y1] k1 p1] p3) (.lst (rng [(a1, a2)])) n := fun h1 h2 s1 s2 =>
    Ev.list (Es.cons (Ev.tuple (Es.cons h1 (Es.cons h2 Es.nil s2) s1)) Es.nil)
  refine Exs.cons (Ex.assign (Ev.bin (Ev.name rfl) Ev.cint (.addI _ _)) (Or.inl rfl) (Or.inr rfl) rfl ?_)
  refine Exs.cons (Ex.assign (Ev.list (Es.cons (tw (Ev.name rfl) (Ev.bin (Ev.name rfl) Ev.cint (.addI _ _)) (Ev.bin (Ev.name rfl) Ev.cint (.subI _ _)) (Ev.bin (Ev.name rfl) Ev.cint (.subI _ _)) rfl rfl rfl rfl)
    (Es.cons (tw (Ev.name rfl) (Ev.name rfl) (Ev.bin (Ev.name rfl) Ev.cint (.subI _ _)) (Ev.bin (Ev.name rfl) Ev.cint (.subI _ _)) rfl rfl rfl rfl)
    (Es.cons (tw (Ev.name rfl) (Ev.bin (Ev.name rfl) Ev.cint (.addI _ _)) (Ev.bin (Ev.name rfl) Ev.cint (.subI _ _)) (Ev.name rfl) rfl rfl rfl rfl) Es.nil)))) (Or.inl rfl) (Or.inr rfl) rfl ?_)
  refine Exs.cons (Ex.assign (Ev.bin (Ev.name rfl) (Ev.list (Es.cons (tw (Ev.bin (Ev.name rfl) Ev.cint (.subI _ _)) (Ev.bin (Ev.name rfl) Ev.cint (.subI _ _)) (Ev.name rfl) (Ev.name rfl) rfl rfl rfl rfl)
    (Es.cons (on (Ev.bin (Ev.name rfl) Ev.cint (.addI _ _)) (Ev.name rfl) rfl rfl) (Es.cons (on (Ev.neg Ev.cint) (Ev.name rfl) rfl rfl) (Es.cons (tw (Ev.name rfl) (Ev.name rfl) (Ev.neg Ev.cint) (Ev.neg Ev.cint) rfl rfl rfl rfl)
    (Es.cons (Ev.list Es.nil) (Es.cons (on Ev.cint Ev.cint rfl rfl) Es.nil))))))) (.addL _ _ (Nat.le_of_ble_eq_true rfl))) (Or.inl rfl) (Or.inr rfl) rfl ?_)
  refine Exs.cons (Ex.assign (Ev.callF (Es.cons (Ev.name rfl) (Es.cons Ev.cint Es.nil)) ht) (Or.inl rfl) (Or.inr rfl) rfl ?_)
  refine Exs.cons (Ex.ret (Ev.as (Ev.cmp (Ev.callF (Es.cons (Ev.item (a := .lst ((bent (b + 5)).map fun rs => Dt.lst (rng rs))) (Ev.name rfl) (Ev.name rfl) (.lst _ _ k _ (by omega) (by omega) (by rw [seqIndex_of (by omega) (by simp [bent]; omega)]; rfl) hit)) Es.nil) har)
    (Ev.cmp (Ev.name rfl) (Ev.tuple (Es.cons Ev.cint (Es.cons Ev.cint (Es.cons Ev.cint Es.nil)))) (.inT _ _ [0, 7, 8] rfl)) (.eqB _ _)) ?_) ⟨rfl, rfl⟩)
  rw [hare]; simp
end
end Mine
end
section
open PySem PyProof.Rows
set_option linter.unusedVariables false
set_option linter.unusedSimpArgs false
namespace Mine
structure Hdd (ns : List Int) (lo hi : Int) (rs : List (Int × Int)) : Prop where
  eq : RR ns = (lo, hi) :: rs
  mem : hi ∈ ns
  max : ∀ z ∈ ns, z ≤ hi
  lo0 : 0 ≤ lo
  le : lo ≤ hi
  hi1 : hi < 900000
  can : Can lo rs
  low : ∀ p ∈ rs, 0 ≤ p.1
  len : rs.length ≤ 9
theorem LotOk.head {ns : List Int} {b : Int} (h : LotOk ns b) (hne : ns ≠ []) : ∃ lo hi rs, Hdd ns lo hi rs := by
  cases hns : ns.reverse with
  | nil => exact absurd (by simpa using hns) hne
  | cons y r =>
    obtain ⟨l, r', hr'⟩ := lrF_head r y y
    have hrr : RR ns = (l, y) :: r' := by unfold RR; rw [hns]; exact hr'
    have hy : y ∈ ns := List.mem_reverse.mp (hns ▸ List.mem_cons_self)
    have hmx : ∀ z ∈ ns, z ≤ y := fun z hz => by
      have hz' : z ∈ y :: r := hns ▸ List.mem_reverse.mpr hz
      have hp := srt_rev h.srt
      rw [hns, List.pairwise_cons] at hp
      rcases List.mem_cons.mp hz' with rfl | hz'
      · exact Int.le_refl _
      · have := hp.1 z hz'; omega
    have hc := h.rr.1
    have hlow := h.low
    have hl := h.len'
    rw [hrr] at hc hlow hl
    exact ⟨l, y, r', hrr, hy, hmx, hlow (l, y) List.mem_cons_self, hc.1, h.up y hy, hc.2.2, fun p hp => hlow p (List.mem_cons_of_mem _ hp), by simpa using hl⟩
theorem Hdd.sm1 {ns : List Int} {lo hi : Int} {rs : List (Int × Int)} (H : Hdd ns lo hi rs) : sm hi ∧ sm (hi - lo) ∧ ∀ p ∈ gapsL lo rs, sm p.1 ∧ sm p.2 := by
  have h1 := H.lo0
  have h2 := H.le
  have h3 := H.hi1
  exact ⟨⟨by omega, by omega⟩, ⟨by omega, by omega⟩, gaps_sm rs lo H.can (by omega) H.low⟩
section
variable {σ : Type} {C : Cx σ} {ρ ρ' : Ro} {fo : Option (List Dt)} {st st1 st2 : σ} {ns : List Int} {bs lo hi : Int} {rs : List (Int × Int)}
end
end Mine
end
section
open PySem PyProof.Rows
set_option linter.unusedVariables false
set_option linter.unusedSimpArgs false
namespace Mine
noncomputable def sumsz (ps : List (Int × Int)) : Int := (ps.map fun p => vsz p.1 + vsz p.2).sum
theorem vsz_pos (n : Int) : 1 ≤ vsz n ∧ vsz n ≤ 4 := by
  rcases vsz_cases n with ⟨h, _⟩ | ⟨h, _⟩ | ⟨h, _⟩ <;> rw [h] <;> decide
theorem vsz_mono {a b : Int} (h : a ≤ b) : vsz a ≤ vsz b := by
  unfold vsz
  split <;> split <;> (try split) <;> (try split) <;> omega
theorem sumsz_cons (p : Int × Int) (r : List (Int × Int)) : sumsz (p :: r) = vsz p.1 + vsz p.2 + sumsz r := by simp [sumsz]
theorem sumsz_nonneg (ps : List (Int × Int)) : 0 ≤ sumsz ps := by
  induction ps with
  | nil => exact Int.le_refl _
  | cons p r ih => rw [sumsz_cons]; have := vsz_pos p.1; have := vsz_pos p.2; omega
theorem sumsz_take_mono (ps : List (Int × Int)) : ∀ {i j : Nat}, i ≤ j → sumsz (ps.take i) ≤ sumsz (ps.take j) := by
  induction ps with
  | nil => intro i j _; simp
  | cons p r ih =>
    intro i j h
    cases i with
    | zero => rw [List.take_zero]; exact sumsz_nonneg _
    | succ i =>
      cases j with
      | zero => omega
      | succ j => rw [List.take_succ_cons, List.take_succ_cons, sumsz_cons, sumsz_cons]; have := ih (i := i) (j := j) (by omega); omega
theorem fitGo_ok (ps : List (Int × Int)) : ∀ (room size many : Int), ∃ t : Nat, fitGo room size many ps = many + t ∧ t ≤ ps.length ∧ (∀ i : Nat, i < t → size + sumsz (ps.take (i + 1)) + vsz (many + i) ≤ room) ∧
    (t < ps.length → room < size + sumsz (ps.take (t + 1)) + vsz (many + t)) := by
  induction ps with
  | nil => intro room size many; exact ⟨0, by simp [fitGo], Nat.le_refl _, fun i hi => by omega, fun h => by simp at h⟩
  | cons p r ih =>
    intro room size many
    obtain ⟨g, l⟩ := p
    unfold fitGo
    by_cases h : size + (vsz g + vsz l) + vsz many > room
    · rw [if_pos h]
      refine ⟨0, by simp, Nat.zero_le _, fun i hi => by omega, fun _ => ?_⟩
      have : sumsz (((g, l) :: r).take (0 + 1)) = vsz g + vsz l := by simp [sumsz]
      rw [this]; simpa using h
    · rw [if_neg h]
      obtain ⟨t, h1, h2, h3, h4⟩ := ih room (size + (vsz g + vsz l)) (many + 1)
      refine ⟨t + 1, by rw [h1]; push_cast; omega, by simp; omega, fun i hi => ?_, fun hlt => ?_⟩
      · rw [List.take_succ_cons, sumsz_cons]
        cases i with
        | zero => simp [sumsz]; simp at h; omega
        | succ i =>
          have := h3 i (by omega)
          have e : many + 1 + (i : Int) = many + ((i + 1 : Nat) : Int) := by push_cast; omega
          rw [e] at this
          dsimp only
          omega
      · have := h4 (by simpa using hlt)
        rw [List.take_succ_cons, sumsz_cons]
        have e : many + 1 + (t : Int) = many + ((t + 1 : Nat) : Int) := by push_cast; omega
        rw [e] at this
        dsimp only
        omega
/-- what so many ranges take -/
noncomputable def cost (delay lo hi : Int) (rs : List (Int × Int)) (i : Nat) : Int := vsz hi + vsz delay + vsz (hi - lo) + sumsz ((gapsL lo rs).take i) + vsz i
theorem gapsL_take (rs : List (Int × Int)) : ∀ (lo : Int) (i : Nat), gapsL lo (rs.take i) = (gapsL lo rs).take i := by
  induction rs with
  | nil => intro lo i; simp [gapsL]
  | cons p r ih =>
    intro lo i
    obtain ⟨l, h⟩ := p
    cases i with
    | zero => rfl
    | succ i => rw [List.take_succ_cons]; simp [gapsL, ih]
theorem encP_len (ps : List (Int × Int)) : ((encP ps).length : Int) = sumsz ps := by
  induction ps with
  | nil => rfl
  | cons p r ih =>
    have e : encP (p :: r) = enc p.1 ++ enc p.2 ++ encP r := by simp [encP]
    rw [e, sumsz_cons, List.length_append, List.length_append, enc_len, enc_len]
    have := vsz_pos p.1
    have := vsz_pos p.2
    push_cast
    rw [ih]
    omega
theorem putR_len (delay lo hi : Int) (rs : List (Int × Int)) (i : Nat) (hi' : i ≤ rs.length) : ((putR delay lo hi (rs.take i)).length : Int) = cost delay lo hi rs i := by
  unfold putR cost
  rw [List.length_append, List.length_append, List.length_append, List.length_append, enc_len, enc_len, enc_len, enc_len]
  have e : (rs.take i).length = i := by simp; omega
  rw [e]
  have h1 := vsz_pos hi
  have h2 := vsz_pos delay
  have h3 := vsz_pos (i : Int)
  have h4 := vsz_pos (hi - lo)
  have h5 := encP_len (gapsL lo (rs.take i))
  rw [gapsL_take] at h5 ⊢
  push_cast
  rw [h5]
  omega
theorem cutR (p : Int × Int) (rs : List (Int × Int)) (i : Nat) : cut (rng (p :: rs)) none (some (1 + (i : Int))) = rng (p :: rs.take i) := by
  simp only [cut, Option.elim]
  have hl : (rng (p :: rs)).length = rs.length + 1 := by simp [rng]
  have e2 : clipAt (rng (p :: rs)).length (1 + (i : Int)) = min (i + 1) (rs.length + 1) := by rw [hl]; simp [clipAt]; omega
  rw [e2]
  simp only [List.drop_zero, Nat.sub_zero]
  by_cases h : i ≤ rs.length
  · rw [Nat.min_eq_left (by omega)]
    simp [rng, List.map_take]
  · rw [Nat.min_eq_right (by omega)]
    have : rs.take i = rs := List.take_of_length_le (by omega)
    rw [this]
    simp [rng]
    exact List.take_of_length_le (by simp)
noncomputable def fineL (delay lo hi room : Int) (rs : List (Int × Int)) : List Int := ((List.range (rs.length + 1)).filter fun (i : Nat) => decide (cost delay lo hi rs i ≤ room)).map fun (i : Nat) => (1 : Int) + (i : Int)
theorem cost_mono (delay lo hi : Int) (rs : List (Int × Int)) {i j : Nat} (h : i ≤ j) : cost delay lo hi rs i ≤ cost delay lo hi rs j := by
  unfold cost
  have h1 := sumsz_take_mono (gapsL lo rs) h
  have h2 := vsz_mono (a := (i : Int)) (b := (j : Int)) (by omega)
  omega
/-- either nothing has room, or just so many have -/
theorem fine_ok (delay lo hi room : Int) (rs : List (Int × Int)) :
    (fineL delay lo hi room rs = [] ∧ fitR delay room lo hi rs = []) ∨
    ∃ t : Nat, t ≤ rs.length ∧ (1 + (t : Int)) ∈ fineL delay lo hi room rs ∧ (∀ a ∈ fineL delay lo hi room rs, a ≤ 1 + (t : Int)) ∧ fitR delay room lo hi rs = rng ((lo, hi) :: rs.take t) := by
  have c0 : cost delay lo hi rs 0 = vsz hi + vsz delay + vsz (hi - lo) + 1 := by
    unfold cost; simp [sumsz, vsz]
  unfold fitR
  by_cases h : vsz hi + vsz delay + vsz (hi - lo) + 1 > room
  · left
    refine ⟨?_, by rw [if_pos h]⟩
    unfold fineL
    rw [List.map_eq_nil_iff, List.filter_eq_nil_iff]
    intro i hi'
    have := cost_mono delay lo hi rs (Nat.zero_le i)
    simp; omega
  · right
    rw [if_neg h]
    obtain ⟨t, h1, h2, h3, h4⟩ := fitGo_ok (gapsL lo rs) room (vsz hi + vsz delay + vsz (hi - lo)) 1
    rw [gapsL_len] at h2 h4
    have hle : ∀ i : Nat, i ≤ t → cost delay lo hi rs i ≤ room := fun i hi' => by
      cases i with
      | zero => rw [c0]; omega
      | succ i =>
        have := h3 i (by omega)
        unfold cost
        have e : (1 : Int) + (i : Int) = ((i + 1 : Nat) : Int) := by push_cast; omega
        rw [e] at this
        exact this
    have hgt : ∀ i : Nat, t < i → i ≤ rs.length → room < cost delay lo hi rs i := fun i hi' hr => by
      have h5 := h4 (by omega)
      have h6 := cost_mono delay lo hi rs (i := t + 1) (j := i) (by omega)
      have e : cost delay lo hi rs (t + 1) = vsz hi + vsz delay + vsz (hi - lo) + sumsz ((gapsL lo rs).take (t + 1)) + vsz (1 + (t : Int)) := by
        unfold cost
        rw [show ((t + 1 : Nat) : Int) = 1 + (t : Int) by push_cast; omega]
      omega
    refine ⟨t, h2, ?_, ?_, ?_⟩
    · unfold fineL
      exact List.mem_map.mpr ⟨t, List.mem_filter.mpr ⟨List.mem_range.mpr (by omega), by simpa using hle t (Nat.le_refl _)⟩, rfl⟩
    · intro a ha
      obtain ⟨i, hi', rfl⟩ := List.mem_map.mp ha
      obtain ⟨g1, g2⟩ := List.mem_filter.mp hi'
      have g3 := List.mem_range.mp g1
      have g4 : cost delay lo hi rs i ≤ room := by simpa using g2
      by_cases hlt : t < i
      · have := hgt i hlt (by omega); omega
      · omega
    · rw [h1, cutR]
end Mine
end
section
open PySem PyProof.Rows
set_option linter.unusedVariables false
set_option linter.unusedSimpArgs false
namespace Mine
theorem range_succ_map (m : Nat) : ranD 1 1 m = (List.range m).map fun (i : Nat) => Dt.int (1 + (i : Int)) := by
  unfold ranD
  simp
section
variable {σ : Type} {C : Cx σ} {ρ ρ' : Ro} {fo : Option (List Dt)} {st st1 st2 : σ} {ns : List Int} {bs lo hi : Int} {rs : List (Int × Int)}
end
section
variable {C : Cx Nat} {ρ ρ' : Ro} {fo : Option (List Dt)} {n n1 n2 : Nat} {P : Post Nat} {bx ba : Addr} {xs : List Int} {ns : List Int} {bs lo hi : Int} {rs : List (Int × Int)}
theorem delays (k : Nat) (h : k < 4) : ∃ dl : Int, sm dl ∧ ([Dt.int 0, .int 63, .int 64, .int 16384])[k]? = some (.int dl) := by
  match k, h with
  | 0, _ => exact ⟨0, ⟨by decide, by decide⟩, rfl⟩
  | 1, _ => exact ⟨63, ⟨by decide, by decide⟩, rfl⟩
  | 2, _ => exact ⟨64, ⟨by decide, by decide⟩, rfl⟩
  | 3, _ => exact ⟨16384, ⟨by decide, by decide⟩, rfl⟩
noncomputable def roomRo (ns : List Int) (lo hi dl : Int) (rs : List (Int × Int)) (m x y : Option Dt) : Ro := [("box", some (.hd 0)), ("lot", some (.lst (dints ns))), ("some", some (.lst (rng ((lo, hi) :: rs)))), ("delay", some (.int dl)), ("many", m), ("room", x), ("fine", y)]
end
end Mine
end
section
open PySem PyProof.Rows
set_option linter.unusedVariables false
set_option linter.unusedSimpArgs false
namespace Mine
noncomputable def lotL (base mask : Int) : List Int := ((List.range 10).filter fun (i : Nat) => decide ((mask.fdiv (2 ^ i)).fmod 2 = 1)).map fun (i : Nat) => base + (i : Int)
theorem lotL_ok (base mask : Int) (h0 : 0 ≤ base) (h1 : base ≤ 20000) : LotOk (lotL base mask) base where
  srt := by
    unfold lotL
    rw [List.pairwise_map]
    exact (List.pairwise_lt_range.sublist List.filter_sublist).imp fun {a b} h => by omega
  len := by
    unfold lotL
    rw [List.length_map]
    exact Nat.le_trans (List.length_filter_le _ _) (by simp)
  b0 := h0
  b1 := h1
  mem := fun x hx => by
    obtain ⟨i, hi, rfl⟩ := List.mem_map.mp hx
    have := List.mem_range.mp (List.mem_filter.mp hi).1
    omega
theorem bases (k : Nat) (h : k < 3) : ∃ b : Int, 0 ≤ b ∧ b ≤ 20000 ∧ ([Dt.int 0, .int 55, .int 16380])[k]? = some (.int b) := by
  match k, h with
  | 0, _ => exact ⟨0, by decide, by decide, rfl⟩
  | 1, _ => exact ⟨55, by decide, by decide, rfl⟩
  | 2, _ => exact ⟨16380, by decide, by decide, rfl⟩
section
variable {C : Cx Nat} {n : Nat} {bx ba : Addr} {xs : List Int}
end
end Mine
end
section
open PySem PyProof.Rows
set_option linter.unusedVariables false
set_option linter.unusedSimpArgs false
namespace Mine
noncomputable def Cx.boxed (C : Cx Nat) (bx ba : Addr) (xs : List Int) : Cx Nat := { C with hv := fun k => if k = 0 then .ref bx else .ref ba, fp := [bx, ba], Sg := boxS bx ba xs }
theorem Cx.boxed_box {C : Cx Nat} {bx ba : Addr} {xs : List Int} (ne : bx ≠ ba) (hl : xs.length ≤ 1000) : BoxC (C.boxed bx ba xs) bx ba xs := ⟨rfl, ne, rfl, rfl, rfl, hl⟩
section
variable {C : Cx Nat} {ρ ρ' : Ro} {fo : Option (List Dt)} {n : Nat} {B : Heap} {mu : List Addr} {K₀ : Kn} {fa bx ba : Addr} {K : Kn} {h h' : Heap} {xs : List Int}
theorem rd_lints {hv hv' : Nat → Value} {v : Value} {ns : List Int} (r : Rd hv K v (.lst (dints ns))) : Rd hv' K v (.lst (dints ns)) := by
  obtain ⟨a, o, vs, n, rfl, e1, e2, e3, e4, e5⟩ := r.lst_inv
  exact .lst e1 e2 e3 e4 (intsAre_rds e5.ints_inv)
theorem Wd.boxed (W : Wd C) : Wd (C.boxed bx ba xs) := by
  refine ⟨W.nl, W.fn, ?_, ?_, ?_, W.c4, W.rf⟩
  · obtain ⟨v, h1, h2⟩ := W.c1; obtain ⟨t, rfl⟩ := h2.int_inv; exact ⟨_, h1, .int ..⟩
  · obtain ⟨v, h1, h2⟩ := W.c2; obtain ⟨t, rfl⟩ := h2.int_inv; exact ⟨_, h1, .int ..⟩
  · obtain ⟨v, h1, h2⟩ := W.c3; obtain ⟨t, rfl⟩ := h2.int_inv; exact ⟨_, h1, .int ..⟩
theorem boxS_stable : ∀ (st : Nat) (h h' : Heap), (∀ a ∈ [bx, ba], ∀ o, h.get? a = some o → h'.get? a = some o) → boxS bx ba xs st h → boxS bx ba xs st h' := fun st h h' k ⟨⟨t, c, g⟩, vs, c', g', hi⟩ =>
  ⟨⟨t, c, k bx (by simp) _ g⟩, vs, c', k ba (by simp) _ g', hi⟩
theorem St.boxed {vs : List Value} {k c : Nat} {t : Tok} (S : St C B mu K₀ fa ρ none K n h) (hfp : C.fp = []) (hb : h.get? bx = some (lobj [.ref ba, .int 0 t] k)) (ha : h.get? ba = some (lobj vs c)) (hi : IntsAre vs xs) (ne : bx ≠ ba) (kb : K bx = none) (ka : K ba = none)
    (nb : bx ∉ ownL C fa none) (na : ba ∉ ownL C fa none) (ncell : ∀ x c, C.env.cells.lookup x = some c → c ∈ ownL C fa none) (look : ∀ m, h.Ns C.env.locals m → Look C m h "box" (.ref bx)) (hρ : Ro.set ρ "box" (.hd 0) = some ρ') (hρb : ρ.get "box" = none)
    (hre : ∀ x d, ρ.get x = some d → ∃ ns, d = .lst (dints ns)) : St (C.boxed bx ba xs) B mu K₀ fa ρ' none K 0 h := by
  have eo : ownL (C.boxed bx ba xs) fa none = ownL C fa none := rfl
  obtain ⟨m, hm, hr, hf⟩ := S.fr
  have o := S.ok
  exact {
    ok := {
      hh := o.hh
      room := o.room
      bl := o.bl
      kind := o.kind
      glob := o.glob
      bui := o.bui
      g := o.g
      b := o.b
      sgk := boxS_stable
      cl := o.cl
      ci := o.ci
      cf := fun x c hx hm' => by
        have hm'' : c ∈ [bx, ba] := hm'
        have hc := ncell x c hx
        rcases List.mem_cons.mp hm'' with rfl | hm''
        · exact nb hc
        · rw [List.mem_singleton.mp hm''] at hc; exact na hc }
    base := fun b o e hb' hf' => S.base b o e hb' (by rw [hfp]; simp)
    ex := S.ex
    kx := S.kx
    kn := S.kn
    top := S.top
    mt := fun a ha' => by
      rw [eo] at ha'
      rcases List.mem_append.mp ha' with ha' | ha'
      · exact S.mt a (List.mem_append.mpr (.inl ha'))
      · have hm'' : a ∈ [bx, ba] := ha'
        rcases List.mem_cons.mp hm'' with rfl | hm''
        · exact ⟨kb, by rw [hb]; rfl⟩
        · rw [List.mem_singleton.mp hm'']; exact ⟨ka, by rw [ha]; rfl⟩
    ow := S.ow
    nd := by
      have nd := S.nd
      rw [hfp, List.append_nil] at nd
      rw [eo]
      show (ownL C fa none ++ [bx, ba]).Nodup
      rw [List.nodup_append]
      refine ⟨nd, by simp [ne], fun x hx y hy e => ?_⟩
      rcases List.mem_cons.mp hy with rfl | hy
      · exact nb (e ▸ hx)
      · rw [List.mem_singleton.mp hy] at e; exact na (e ▸ hx)
    fr := ⟨m, hm, fun x d e => by
      rw [Ro.get_set hρ] at e
      by_cases hx : x = "box"
      · rw [if_pos hx] at e; cases e
        exact ⟨.ref bx, hx ▸ look m hm, .hd 0 rfl⟩
      · rw [if_neg hx] at e
        obtain ⟨v, l, r⟩ := hr x d e
        obtain ⟨ns, rfl⟩ := hre x d e
        exact ⟨v, l, rd_lints r⟩, fun _ e => by cases e⟩
    fl := fun _ e => by cases e
    ce := S.ce
    sg := ⟨⟨t, k, hb⟩, vs, c, ha, hi⟩ }
theorem cut24 (xs : List Int) : cut (dints xs) none (some 24) = dints (xs.take 24) := by
  simp only [cut, Option.elim]
  have : clipAt (dints xs).length 24 = min 24 xs.length := by simp [clipAt, dints]; omega
  rw [this]
  simp only [List.drop_zero, Nat.sub_zero, dints, List.map_take]
  by_cases h : 24 ≤ xs.length
  · rw [Nat.min_eq_left h]
  · rw [Nat.min_eq_right (by omega), List.take_of_length_le (by simp), List.take_of_length_le (by simp; omega)]
/-- the law's first statement -/
theorem law_first {C : Cx Nat} {L a : Addr} {cd : Value} {ns : List Int} {s : Shared} {Q : Flow → Shared → Prop} {E : Value → Shared → Prop} (hfp : C.fp = [])
    (S : St (C.callee "law" (dS 39) L a cd) B mu K₀ fa (ro0 (dS 39) [("script", .lst (dints ns))]) none K n s.heap)
    (q : ∀ bx ba h' tk K', BoxC (C.boxed bx ba (ns.take 24)) bx ba (ns.take 24) → St ((C.boxed bx ba (ns.take 24)).callee "law" (dS 39) L a cd) B mu K₀ fa [("script", some (.lst (dints ns))), ("box", some (.hd 0)), ("base", none), ("mask", none), ("lot", none)] none K' 0 h' → Q .next { s with heap := h', toks := tk }) :
    wpAny (model C.prog C.w) (C.callee "law" (dS 39) L a cd).A (exec ((dB 39).headD (.Pass ⟨0, 0, 0, 0⟩)) (C.callee "law" (dS 39) L a cd).env) Q E s := by
  have hc : (C.callee "law" (dS 39) L a cd).fp = [] := hfp
  refine wpAny_Assign_Name (List_ ?_) rfl
  have bl := S.ok.bl "list" (.type "list") rfl
  have sl : ∀ {p1 p2 p3 p4 : Pos} {k : Nat}, Es (C.callee "law" (dS 39) L a cd) (ro0 (dS 39) [("script", .lst (dints ns))]) none n [.Subscript (.Name "script" p1) (.Slice none (some (.Constant (.int 24) k p2)) none p3) p4] [.lst (cut (dints ns) none (some 24))] n :=
    fun {p1 p2 p3 p4 k} => Es.cons (Ev.sliceL (Ev.name rfl) Eo.none (Eo.some Ev.cint)) Es.nil
  rw [starEach_cons (by rfl), starEach_cons (by rfl)]
  refine Calls.spliced_cons (wpAny_Call_NameR (S.builtName rfl bl.1 bl.2 (PyProof.Rows.callWith_type rfl (evalArgs_ns rfl (sl _ B mu K₀ fa K s _ E S fun us h1 tk1 K1 k1 S1 r1 => ?_))) (by decide)))
  obtain ⟨v, rv, rfl⟩ := r1.one'
  rw [cut24] at rv
  obtain ⟨b0, o0, vs, c0, rfl, f1, f2, f3, f4, f5⟩ := rv.lst_inv
  obtain ⟨m, hm, _⟩ := S1.fr
  refine W.list_copyK (s := { s with heap := h1, toks := tk1 }) (fr_e0 hm) (news_e0 _ _) ⟨o0, S1.kn _ _ f1, f2, c0, f3⟩ (fun D c h2 F' N' hlt => ?_) (by rw [List.size_toArray, f5.length]; exact lim_line f4)
  have hD := N' (D, _) List.mem_cons_self
  have Dn : h1.get? D = none := S1.none_of_gt (o := W.listOf vs.toArray c) hm hD.2.1 hlt
  obtain ⟨d1, d2, d3⟩ := S1.fresh_out Dn
  have S2 := S1.lib hm F' N' fun p hp => List.mem_cons_of_mem _ hp
  have hDo : h2.get? D = some (lobj vs c) := hD.1
  refine Calls.spliced_cons ?_
  refine wpAny_Constant_int (k := 0) (pos := ⟨213, 30, 213, 31⟩) ?_
  refine Calls.spliced_nil ?_
  refine wpAny_newObj_type ?_
  obtain ⟨x1, x2, x3⟩ := S2.fresh_out (size_none h2)
  have S3 := S2.pushed (lobj [.ref D, .int 0 tk1] 0)
  have hB3 : (h2.push (lobj [.ref D, .int 0 tk1] 0)).get? h2.objs.size = some (lobj [.ref D, .int 0 tk1] 0) := Heap.get?_push_size _ rfl
  have hD3 : (h2.push (lobj [.ref D, .int 0 tk1] 0)).get? D = some (lobj vs c) := Heap.get?_push_of_some _ hDo
  have neD : h2.objs.size ≠ D := fun z => by rw [← z, size_none] at hDo; cases hDo
  refine S3.storeAny (s := ⟨_, _, _, _, _⟩) (Or.inl rfl) fun h4 tk4 keep look g => ?_
  have S4 := g (ro0 (dS 39) [("script", .lst (dints ns))]) (fun y d e => by
    by_cases hy : y = "box"
    · rw [hy] at e; cases e
    · rw [if_neg hy]; exact e) (Or.inr rfl)
  have hx3 : h2.objs.size ∉ ownL (C.callee "law" (dS 39) L a cd) fa none := fun z => x3 (List.mem_append.mpr (.inl z))
  have hd3 : D ∉ ownL (C.callee "law" (dS 39) L a cd) fa none := fun z => d3 (List.mem_append.mpr (.inl z))
  refine q h2.objs.size D h4 tk4 K1 (Cx.boxed_box neD (by simp; omega)) ?_
  have hre : ∀ x d, (ro0 (dS 39) [("script", .lst (dints ns))]).get x = some d → ∃ ms, d = .lst (dints ms) := fun x d e => by
    have := ro0_get e
    rw [List.lookup_cons] at this
    cases hx : x == ("script" : Str) with
    | true => rw [hx] at this; cases this; exact ⟨ns, rfl⟩
    | false => rw [hx] at this; cases this
  exact S4.boxed hc (keep _ _ hB3 hx3) (keep _ _ hD3 hd3) (Rds.ints_inv f5) neD x1 d1 hx3 hd3
    (fun x c hx => List.mem_cons_of_mem _ (List.mem_append.mpr (.inl (List.mem_map.mpr ⟨_, mem_of_lookup hx, rfl⟩)))) (fun m' hm' => look m' hm') rfl rfl hre
end
end Mine
end
section
open PySem PyProof.Rows
set_option linter.unusedVariables false
set_option linter.unusedSimpArgs false
namespace Mine
section
variable {σ : Type} {C : Cx σ} {ρ ρ' : Ro} {fo : Option (List Dt)} {st st1 st2 : σ} {B : Heap} {mu : List Addr} {K₀ : Kn} {fa : Addr} {K : Kn} {h h' : Heap}
/-- an object of the footprint changed, the frame's own object told by its names -/
theorem St.effect' {a : Addr} (S : St C B mu K₀ fa ρ fo K st h) (ha : a ∈ C.fp) (hk : ∀ b o, b ≠ a → b ≠ C.env.locals → h.get? b = some o → h'.get? b = some o) (hn : ∀ m, h.Ns C.env.locals m → h'.Ns C.env.locals m)
    (hp : (h'.get? a).isSome = true) (hc : ∀ v, ¬ h.IsCell a v) (sg : C.Sg st1 h') : St C B mu K₀ fa ρ fo K st1 h' := by
  obtain ⟨m, hm, hr, hf⟩ := S.fr
  have hL : (h'.get? C.env.locals).isSome = true := by obtain ⟨o, _, _, ho, _⟩ := hn m hm; rw [ho]; rfl
  have ks : ∀ b, (h.get? b).isSome = true → (h'.get? b).isSome = true := fun b hb => by
    by_cases e : b = a
    · rw [e]; exact hp
    · by_cases e2 : b = C.env.locals
      · rw [e2]; exact hL
      · obtain ⟨o, ho⟩ := Option.isSome_iff_exists.mp hb
        rw [hk b o e e2 ho]; rfl
  have kf : K a = none := (S.mt a (List.mem_append.mpr (.inr ha))).1
  have kL : K C.env.locals = none := (S.mt _ (List.mem_append.mpr (.inl St.L_mem))).1
  have nd := S.nd
  have off : ∀ b ∈ ownL C fa fo, b ≠ a := fun b hb e => by
    rw [List.nodup_append] at nd
    exact nd.2.2 b hb a ha e
  have Lown : ∀ b o, B.get? b = some o → b ∉ mu → b ≠ C.env.locals := fun b o e hb q => by
    rcases S.ow b (q ▸ St.L_mem) with z | z
    · exact hb z
    · rw [z] at e; cases e
  have fc : ∀ c v, h.IsCell c v → h'.IsCell c v := fun c v i => by
    have i' := i
    obtain ⟨o, ho, hd⟩ := i
    exact ⟨o, hk c o (fun e => hc v (e ▸ i')) (cell_ne hm i') ho, hd⟩
  have lk : ∀ x v, Look C m h x v → Look C m h' x v := fun x v l => l.imp id fun ⟨a, c, b, i⟩ => ⟨a, c, b, fc _ _ i⟩
  exact {
    ok := S.ok
    base := fun b o e hb hf' => hk b o (fun z => hf' (z ▸ ha)) (Lown b o e hb) (S.base b o e hb hf')
    ex := fun b hb => ks b (S.ex b hb)
    kx := S.kx
    kn := fun b o e => hk b o (fun z => by rw [z, kf] at e; cases e) (fun z => by rw [z, kL] at e; cases e) (S.kn b o e)
    top := S.top
    mt := fun b hb => ⟨(S.mt b hb).1, ks b (S.mt b hb).2⟩
    ow := S.ow
    nd := S.nd
    fr := ⟨m, hn m hm, fun x d e => let ⟨v, l, r⟩ := hr x d e; ⟨v, lk x v l, r⟩, fun ds e => lk _ _ (hf ds e)⟩
    fl := fun ds e => let ⟨vs, n, g, r⟩ := S.fl ds e; ⟨vs, n, hk fa _ (off fa (by subst e; simp [ownL])) (list_ne hm g) g, r⟩
    ce := fun p hp => let ⟨v, i⟩ := S.ce p hp; ⟨v, fc _ _ i⟩
    sg := sg }
theorem setAttr_raw {KF : PySem.W.Frag} {rc fi fl fv x dx : Addr} {s : Shared} {es es' : List DictEntry} {n : Nat} {name : Str} {v : Value} {Q : Unit → Shared → Prop} {E : Value → Shared → Prop} (S : St C B mu K₀ fa ρ fo K st s.heap) (RF : RdF C.g₀ C.mg KF rc fi fl fv)
    (hx : s.heap.get? x = some (PySem.W.instObj rc dx)) (hd : s.heap.get? dx = some (PySem.W.dictOf es n)) (neL : dx ≠ C.env.locals) (ht : PySem.W.takerIn KF rc name = some none) (hl : (PySem.W.getL name es).isSome = true)
    (e : PySem.W.putL name (PyData.keyHash C.w.params name) (.str name (s.toks + 1)) v es = es') (hz : es'.length ≤ 1000)
    (q : ∀ h' n', (∀ b o, b ≠ dx → b ≠ C.env.locals → s.heap.get? b = some o → h'.get? b = some o) → (∀ m, s.heap.Ns C.env.locals m → h'.Ns C.env.locals m) → h'.get? dx = some (PySem.W.dictOf es' n') → Q () { s with heap := h', toks := s.toks + 2 }) :
    wpAny (model C.prog C.w) C.A (setAttr (.ref x) name v) Q E s := by
  obtain ⟨m, hm, _⟩ := S.fr
  have X : KF.In s.heap := RF.kx.keeps S.gk
  have I : PySem.W.InstAt s.heap x (PySem.W.instObj rc dx) rc (some (PySem.W.dictOf es n)) := ⟨hx, rfl, rfl, hd⟩
  have N : News e0 C.env.locals s.heap ([] ++ (dx, PySem.W.dictOf es n) :: (allBut C.env.locals s.heap).filter fun p => decide (p.1 ≠ dx)) := fun p hp => by
    rcases List.mem_cons.mp hp with rfl | hp
    · exact ⟨hd, neL, e0_none _⟩
    · exact news_e0 _ _ p (List.mem_filter.mp hp).1
  refine PySem.W.set_plain X I RF.sa (PySem.W.osa_dict (s := { s with toks := s.toks + 1 }) (fr_e0 hm) N X I rfl RF.po ht RF.hd hl (fun p hp => nomatch hp) (fun p hp => by simpa using (List.mem_filter.mp hp).2) (by rw [PySem.W.putName_dict, e]) rfl hz fun h' F' N' => ?_)
  refine q h' _ (fun b o hb hL ho => ?_) (fun m' hm' => ?_) (N' (dx, _) List.mem_cons_self).1
  · exact (N' (b, o) (List.mem_cons_of_mem _ (List.mem_filter.mpr ⟨mem_allBut.mpr ⟨hL, ho⟩, by simpa using hb⟩))).1
  · rw [← ns_uniq hm hm']; exact F'.ns
/-- a method of the text, called: its body walked -/
theorem code_meth {f : Addr} {nm qual : Str} {i j : Nat} {ps : List (Str × Dt)} {d : Dt} {s : Shared} {vs : List Value} {R : Result → Shared → Prop} (S : St C B mu K₀ fa ρ fo K st s.heap) (W : Wd C) (MA : MethAt C.g₀ f nm qual i j) (hl : 1 ≤ C.lv) (hs : sigOk (mS i j) (ps.map (·.1)) = true)
    (hb : ∀ md cd (vs : List Value), vs.length = ps.length → bindArgs (mfd nm qual i j md cd) ⟨vs, []⟩ = pure ((ps.map (·.1)).zip vs)) (r : Rds C.hv K vs (ps.map (·.2)))
    (body : ∀ L cd, Exs (C.callee qual (mS i j) L f cd) (ro0 (mS i j) ps) none st (mB i j) (fun fl _ _ st' => (fl = .ret d ∨ (fl = .next ∧ d = .none)) ∧ st' = st1))
    (q : ∀ v h' tk K', KLe K K' → St C B mu K₀ fa ρ fo K' st1 h' → Rd C.hv K' v d → R (.ok (.ret v)) { s with heap := h', toks := tk }) : codeAny (model C.prog C.w) C.A (.call (.ref f) ⟨vs, []⟩) R s := by
  obtain ⟨md, cd, h2, h4⟩ := MA
  have hs' := hs
  unfold sigOk at hs'
  simp only [Bool.and_eq_true] at hs'
  obtain ⟨⟨⟨⟨⟨s1, s2⟩, s3⟩, s4⟩, s5⟩, s6⟩ := hs'
  have hlen : vs.length = ps.length := by rw [r.length]; simp
  have hroom : C.A.depth < recursionLimit := by have := S.ok.room.1; omega
  refine codeAny_call_cells (fd := mfd nm qual i j md cd) (binds := (ps.map (·.1)).zip vs) hroom (S.gk _ _ h2) rfl (W.nl.keeps S.gk) (h4.keeps S.gk) rfl (hb md cd vs hlen) rfl (fun x hx => ?_) (fun s₁ XC => ?_) (by simpa using s4 : (mS i j).isCoroutine = false) (by simpa using s5 : (mS i j).isGenerator = false) (by simpa using s6 : (mS i j).kind = .function)
  · have hx' : x.1 ∈ ps.map (·.1) := by
      have : x.1 ∈ ((ps.map (·.1)).zip vs).map (·.1) := List.mem_map.mpr ⟨x, hx, rfl⟩
      rwa [zip_keys (by rw [hlen]; simp)] at this
    have := List.all_eq_true.mp s3 x.1 hx'
    rw [Bool.or_eq_true] at this
    rcases this with q | q
    · exact Or.inl (by simpa using q : (mS i j).names.lookup x.1 = some .local)
    · have q' : (mS i j).names.lookup x.1 = some .cell := by simpa using q
      obtain ⟨c, hc⟩ := cellsFrom_has (lo := s.heap.objs.size + 1) (acc := []) (mem_of_lookup q')
      exact Or.inr ⟨q', lookup_isSome hc⟩
  · obtain ⟨h₁, tk, rfl, _⟩ := XC.done
    have S1 := S.start (n := qual) (a := f) (cd := cd) hl hs r ⟨XC.toInCall.ns, XC.toInCall.keep, XC.toInCall.fresh⟩ ⟨XC.cell, XC.apart, XC.above⟩
    refine wpAny_mono (body s.heap.objs.size cd s.heap [] K 0 K { s with heap := h₁, toks := tk } (fun f s' => R (.ok (.ret (match f with | .ret v => v | _ => .none))) s') (fun _ _ => False) S1 fun f' h' tk' K' fa' fl ρ' fo' st' p k S' r' => ?_) (fun _ _ z => z) fun _ _ z => z.elim
    obtain ⟨rfl | ⟨rfl, rfl⟩, rfl⟩ := p
    · cases f' with
      | ret v => exact q v h' tk' K' k (S.home (C' := C.callee qual (mS i j) s.heap.objs.size f cd) k rfl rfl rfl S') r'
      | _ => cases r'
    · cases f' with
      | next => exact q .none h' tk' K' k (S.home (C' := C.callee qual (mS i j) s.heap.objs.size f cd) k rfl rfl rfl S') .none
      | _ => cases r'
theorem call_meth {f : Addr} {nm qual : Str} {i j : Nat} {ps : List (Str × Dt)} {d : Dt} {s : Shared} {vs : List Value} {Q E : Value → Shared → Prop} (S : St C B mu K₀ fa ρ fo K st s.heap) (W : Wd C) (MA : MethAt C.g₀ f nm qual i j) (hl : 1 ≤ C.lv) (hs : sigOk (mS i j) (ps.map (·.1)) = true)
    (hb : ∀ md cd (vs : List Value), vs.length = ps.length → bindArgs (mfd nm qual i j md cd) ⟨vs, []⟩ = pure ((ps.map (·.1)).zip vs)) (r : Rds C.hv K vs (ps.map (·.2)))
    (body : ∀ L cd, Exs (C.callee qual (mS i j) L f cd) (ro0 (mS i j) ps) none st (mB i j) (fun fl _ _ st' => (fl = .ret d ∨ (fl = .next ∧ d = .none)) ∧ st' = st1))
    (q : ∀ v h' tk K', KLe K K' → St C B mu K₀ fa ρ fo K' st1 h' → Rd C.hv K' v d → Q v { s with heap := h', toks := tk }) : wpAny (model C.prog C.w) C.A (call (.ref f) vs) Q E s :=
  wpAny_call (code_meth S W MA hl hs hb r body q)
end
end Mine
end
section
open PySem PyProof.Rows
set_option linter.unusedVariables false
set_option linter.unusedSimpArgs false
namespace Mine
/-- the reader's dict, by its age: empty, data laid, at laid -/
noncomputable def RdS (x dx rc : Addr) (l : List UInt8) (k : Nat) (h : Heap) : Prop := h.get? x = some (PySem.W.instObj rc dx) ∧ match k with
  | 0 => ∃ n, h.get? dx = some (PySem.W.dictOf [] n)
  | 1 => ∃ n h1 t1 t2, h.get? dx = some (PySem.W.dictOf [⟨h1, .str "data" t1, .bytes l.toArray t2⟩] n)
  | i + 2 => ∃ n h1 t1 t2 h2 t3 t4, h.get? dx = some (PySem.W.dictOf [⟨h1, .str "data" t1, .bytes l.toArray t2⟩, ⟨h2, .str "at" t3, .int (i : Int) t4⟩] n)
structure RdC (C : Cx (Nat × Nat)) (x dx rc : Addr) (l : List UInt8) : Prop where
  hx : C.hv 7 = .ref x
  fx : x ∈ C.fp
  fd : dx ∈ C.fp
  ne : x ≠ dx
  len : l.length ≤ lim
  nm : C.mg "Reader" = some (.ref rc)
  sg : ∃ S0 : Nat → Heap → Prop, C.Sg = (fun p h => S0 p.1 h ∧ RdS x dx rc l p.2 h) ∧ ∀ n h h', (∀ b ∈ C.fp, b ≠ dx → ∀ o, h.get? b = some o → h'.get? b = some o) → S0 n h → S0 n h'
section
variable {C : Cx (Nat × Nat)} {ρ ρ' : Ro} {fo : Option (List Dt)} {p p1 p2 : Nat × Nat} {P : Post (Nat × Nat)} {x dx rc : Addr} {l : List UInt8} {B : Heap} {mu : List Addr} {K₀ : Kn} {fa : Addr} {K : Kn} {h h' : Heap} {n k i j : Nat}
theorem RdC.callee (X : RdC C x dx rc l) {nm : Str} {sc : Scope} {L a : Addr} {cd : Value} : RdC (C.callee nm sc L a cd) x dx rc l := ⟨X.hx, X.fx, X.fd, X.ne, X.len, X.nm, X.sg⟩
theorem RdC.comp (X : RdC C x dx rc l) {sc : Scope} {L : Addr} : RdC (C.comp sc L) x dx rc l := ⟨X.hx, X.fx, X.fd, X.ne, X.len, X.nm, X.sg⟩
theorem RdC.rds (X : RdC C x dx rc l) (S : St C B mu K₀ fa ρ fo K p h) : RdS x dx rc l p.2 h := by
  obtain ⟨S0, e, _⟩ := X.sg
  have := S.sg
  rw [e] at this
  exact this.2
theorem RdC.rf (X : RdC C x dx rc l) (W : Wd C) : ∃ KF fi fl fv, RdF C.g₀ C.mg KF rc fi fl fv := by
  obtain ⟨KF, rc', fi, fl, fv, RF⟩ := W.rf
  have := RF.nm
  rw [X.nm] at this
  cases this
  exact ⟨KF, fi, fl, fv, RF⟩
theorem RdC.notL (X : RdC C x dx rc l) (S : St C B mu K₀ fa ρ fo K p h) : dx ≠ C.env.locals ∧ x ≠ C.env.locals := ⟨fun e => S.L_fp (e ▸ X.fd), fun e => S.L_fp (e ▸ X.fx)⟩
theorem RdC.put (X : RdC C x dx rc l) (S : St C B mu K₀ fa ρ fo K (n, k) h) (hk : ∀ b o, b ≠ dx → b ≠ C.env.locals → h.get? b = some o → h'.get? b = some o) (hn : ∀ m, h.Ns C.env.locals m → h'.Ns C.env.locals m) (r : RdS x dx rc l j h') (hd : (h'.get? dx).isSome = true)
    (hc : ∀ v, ¬ h.IsCell dx v) : St C B mu K₀ fa ρ fo K (n, j) h' := by
  obtain ⟨S0, e, st⟩ := X.sg
  refine S.effect' X.fd hk hn hd hc ?_
  have sg := S.sg
  rw [e] at sg ⊢
  exact ⟨st n h h' (fun b hb hne o ho => hk b o hne (fun z => S.L_fp (z ▸ hb)) ho) sg.1, r⟩
theorem dict_no_cell {h : Heap} {a : Addr} {es : List DictEntry} {n : Nat} (e : h.get? a = some (PySem.W.dictOf es n)) : ∀ v, ¬ h.IsCell a v := fun v ⟨o, ho, hd⟩ => by
  rw [e] at ho; cases ho; cases hd
theorem Ev.rdata (X : RdC C x dx rc l) (W : Wd C) {y : Str} {yp pos : Pos} (hy : ρ.get y = some (.hd 7)) (hyd : (y == ("__debug__" : Str)) = false := by decide) : Ev C ρ fo (n, i + 2) (.Attribute (.Name y yp) "data" pos) (.bytes l) (n, i + 2) :=
  fun B mu K₀ fa K s Q E S q => Attribute_Name_ (Ev.name hy hyd B mu K₀ fa K s _ E S fun v h1 tk1 K1 k1 S1 r1 => by
    obtain ⟨KF, fi, fl, fv, RF⟩ := X.rf W
    rw [r1.hd_inv, X.hx]
    obtain ⟨g1, n', h1', t1, t2, h2, t3, t4, g2⟩ := X.rds S1
    exact PySem.W.get_value (s := { s with heap := h1, toks := tk1 }) (RF.kx.keeps S1.gk) ⟨g1, rfl, rfl, g2⟩ RF.ga (PySem.W.findObj_own RF.hd RF.fd rfl rfl) rfl (q _ h1 _ K1 k1 S1 (.bytes _ rfl X.len)))
theorem Ev.rat (X : RdC C x dx rc l) (W : Wd C) {y : Str} {yp pos : Pos} (hy : ρ.get y = some (.hd 7)) (hyd : (y == ("__debug__" : Str)) = false := by decide) : Ev C ρ fo (n, i + 2) (.Attribute (.Name y yp) "at" pos) (.int (i : Int)) (n, i + 2) :=
  fun B mu K₀ fa K s Q E S q => Attribute_Name_ (Ev.name hy hyd B mu K₀ fa K s _ E S fun v h1 tk1 K1 k1 S1 r1 => by
    obtain ⟨KF, fi, fl, fv, RF⟩ := X.rf W
    rw [r1.hd_inv, X.hx]
    obtain ⟨g1, n', h1', t1, t2, h2, t3, t4, g2⟩ := X.rds S1
    exact PySem.W.get_value (s := { s with heap := h1, toks := tk1 }) (RF.kx.keeps S1.gk) ⟨g1, rfl, rfl, g2⟩ RF.ga (PySem.W.findObj_own RF.hd RF.fa rfl rfl) rfl (q _ h1 _ K1 k1 S1 (.int ..)))
/-- the names stored -/
theorem RdC.setData (X : RdC C x dx rc l) (W : Wd C) {s : Shared} {v : Value} {Q : Unit → Shared → Prop} {E : Value → Shared → Prop} (S : St C B mu K₀ fa ρ fo K (n, 0) s.heap) (r : Rd C.hv K v (.bytes l))
    (q : ∀ h' tk, St C B mu K₀ fa ρ fo K (n, 1) h' → Q () { s with heap := h', toks := tk }) : wpAny (model C.prog C.w) C.A (setAttr (.ref x) "data" v) Q E s := by
  obtain ⟨KF, fi, fl, fv, RF⟩ := X.rf W
  obtain ⟨t, rfl, _⟩ := r.bytes_inv
  obtain ⟨g1, n', g2⟩ := X.rds S
  refine setAttr_raw S RF g1 g2 (X.notL S).1 RF.td rfl rfl (Nat.le_of_ble_eq_true rfl) fun h2 n2 hk hn g3 => q h2 _ ?_
  exact X.put S hk hn ⟨hk _ _ X.ne (X.notL S).2 g1, n2, _, _, _, g3⟩ (by rw [g3]; rfl) (dict_no_cell g2)
theorem RdC.setAt1 (X : RdC C x dx rc l) (W : Wd C) {s : Shared} {v : Value} {Q : Unit → Shared → Prop} {E : Value → Shared → Prop} (S : St C B mu K₀ fa ρ fo K (n, 1) s.heap) (r : Rd C.hv K v (.int (j : Int)))
    (q : ∀ h' tk, St C B mu K₀ fa ρ fo K (n, j + 2) h' → Q () { s with heap := h', toks := tk }) : wpAny (model C.prog C.w) C.A (setAttr (.ref x) "at" v) Q E s := by
  obtain ⟨KF, fi, fl, fv, RF⟩ := X.rf W
  obtain ⟨t, rfl⟩ := r.int_inv
  obtain ⟨g1, n', h1, t1, t2, g2⟩ := X.rds S
  refine setAttr_raw S RF g1 g2 (X.notL S).1 RF.ta rfl rfl (Nat.le_of_ble_eq_true rfl) fun h2 n2 hk hn g3 => q h2 _ ?_
  exact X.put S hk hn ⟨hk _ _ X.ne (X.notL S).2 g1, n2, _, _, _, _, _, _, g3⟩ (by rw [g3]; rfl) (dict_no_cell g2)
theorem RdC.setAt (X : RdC C x dx rc l) (W : Wd C) {s : Shared} {v : Value} {Q : Unit → Shared → Prop} {E : Value → Shared → Prop} (S : St C B mu K₀ fa ρ fo K (n, i + 2) s.heap) (r : Rd C.hv K v (.int (j : Int)))
    (q : ∀ h' tk, St C B mu K₀ fa ρ fo K (n, j + 2) h' → Q () { s with heap := h', toks := tk }) : wpAny (model C.prog C.w) C.A (setAttr (.ref x) "at" v) Q E s := by
  obtain ⟨KF, fi, fl, fv, RF⟩ := X.rf W
  obtain ⟨t, rfl⟩ := r.int_inv
  obtain ⟨g1, n', h1, t1, t2, h2, t3, t4, g2⟩ := X.rds S
  refine setAttr_raw S RF g1 g2 (X.notL S).1 RF.ta rfl rfl (Nat.le_of_ble_eq_true rfl) fun h2 n2 hk hn g3 => q h2 _ ?_
  exact X.put S hk hn ⟨hk _ _ X.ne (X.notL S).2 g1, n2, _, _, _, _, _, _, g3⟩ (by rw [g3]; rfl) (dict_no_cell g2)
theorem assign_attr {y nm : Str} {yp pos : Pos} {s : Shared} {v : Value} {Q : Unit → Shared → Prop} {E : Value → Shared → Prop} (S : St C B mu K₀ fa ρ fo K p s.heap) (X : RdC C x dx rc l) (hy : ρ.get y = some (.hd 7)) (hyd : (y == ("__debug__" : Str)) = false)
    (q : ∀ h1 tk1 K1, KLe K K1 → St C B mu K₀ fa ρ fo K1 p h1 → wpAny (model C.prog C.w) C.A (setAttr (.ref x) nm v) Q E { s with heap := h1, toks := tk1 }) : wpAny (model C.prog C.w) C.A (assign (.Attribute (.Name y yp) nm pos) C.env v) Q E s := by
  rw [assign_Attribute]
  refine wpAny_bind (wpAny_holding (Ev.name hy hyd B mu K₀ fa K s _ E S fun w h1 tk1 K1 k1 S1 r1 => ?_))
  rw [r1.hd_inv, X.hx]
  refine wpAny_bind (wpAny_standAt (wpAny_bind (wpAny_holding (wpAny_mono (q h1 tk1 K1 k1 S1) (fun _ _ z => wpAny_release z) fun _ _ z => z))))
end
end Mine
end
section
open PySem PyProof.Rows
set_option linter.unusedVariables false
set_option linter.unusedSimpArgs false
namespace Mine
section
variable {C : Cx (Nat × Nat)} {ρ ρ' : Ro} {fo : Option (List Dt)} {p p1 p2 : Nat × Nat} {P : Post (Nat × Nat)} {x dx rc : Addr} {l : List UInt8} {B : Heap} {mu : List Addr} {K₀ : Kn} {fa : Addr} {K : Kn} {h h' : Heap} {n k i j : Nat}
/-- found, self.at = e -/
theorem Ex.assignFA (X : RdC C x dx rc l) (W : Wd C) {y z : Str} {p1 p2 p3 tpos pos : Pos} {kk : Nat} {value : Expr} {d : Dt} (hv : Ev C ρ fo p value (.tup [d, .int (j : Int)]) (n, i + 2)) (hx : stor C y) (hne : y ≠ fnd ∨ fo = none) (hs : Ro.set ρ y d = some ρ') (hself : ρ'.get z = some (.hd 7)) (h : P .next ρ' fo (n, j + 2))
    (hzd : (z == ("__debug__" : Str)) = false := by decide) (hw : swapsWithSole [.Tuple [.Name y p1, .Attribute (.Name z p2) "at" p3] kk tpos] value pos.line C.env = pure false := by rfl) (hw' : swappedStores [.Tuple [.Name y p1, .Attribute (.Name z p2) "at" p3] kk tpos] value C.env = pure none := by rfl) :
    Ex C ρ fo p (.Assign [.Tuple [.Name y p1, .Attribute (.Name z p2) "at" p3] kk tpos] value pos) P :=
  fun B mu K₀ fa K s Q E S q => Assign_Tuple (hv B mu K₀ fa K s _ E S fun v h1 tk1 K1 k1 S1 r1 => by
    obtain ⟨a, o, vs, n', rfl, f1, f2, f3, f4, f5⟩ := r1.tup_inv
    obtain ⟨u1, ru1, u2, ru2, rfl⟩ := f5.two
    refine wpAny_assign_Tuple (s := { s with heap := h1, toks := tk1 }) (items := #[u1, u2]) S1.ok.hh ⟨o, S1.kn _ _ f1, f2, n', f3⟩ rfl rfl fun h2 he => ?_
    have S2 : St C B mu K₀ fa ρ fo K1 (n, i + 2) h2 := S1.keeps fun c o' e => he c o' (fun z => by rw [z, size_none] at e; cases e) e
    refine wpAny_bind (wpAny_holding (wpAny_assign_Name (S2.store (s := { s with heap := h2, toks := tk1 }) hx ru1 hs hne fun h3 tk3 S3 => ?_)))
    refine wpAny_bind (wpAny_holding (assign_attr (s := { s with heap := h3, toks := tk3 }) S3 X hself hzd fun h4 tk4 K4 k4 S4 => ?_))
    exact X.setAt W (s := { s with heap := h4, toks := tk4 }) S4 (ru2.mono k4) fun h5 tk5 S5 => wpAny_pure (q .next h5 tk5 K4 fa .next ρ' fo (n, j + 2) h (k1.trans k4) S5 trivial)) hw hw'
/-- a method of the reader -/
theorem Ev.rmeth (X : RdC C x dx rc l) (W : Wd C) {KF : PySem.W.Frag} {fi fl fv f : Addr} {y nm qual : Str} {d : Dt} {yp apos cpos : Pos} {pl : Sem Bool} {m : Nat} (RF : RdF C.g₀ C.mg KF rc fi fl fv) (hf : PySem.W.findIn KF (.ref rc) nm = some (some (.ref f))) (ht : PySem.W.typeIn KF (.ref f) = some (.type "function"))
    (MA : MethAt C.g₀ f nm qual 20 m) (hsh : ∀ h1 t1 v h2 t3 w n, PySem.W.shadowIn (some (PySem.W.dictOf [⟨h1, .str "data" t1, v⟩, ⟨h2, .str "at" t3, w⟩] n)) nm = some false) (hl : 1 ≤ C.lv) (hs : sigOk (mS 20 m) ["self"] = true)
    (hb : ∀ md cd (vs : List Value), vs.length = 1 → bindArgs (mfd nm qual 20 m md cd) ⟨vs, []⟩ = pure ((["self"] : List Str).zip vs)) (hy : ρ.get y = some (.hd 7))
    (body : ∀ L cd, Exs (C.callee qual (mS 20 m) L f cd) (ro0 (mS 20 m) [("self", .hd 7)]) none (n, i + 2) (mB 20 m) (fun fl _ _ st' => (fl = .ret d ∨ (fl = .next ∧ d = .none)) ∧ st' = p1))
    (hyd : (y == ("__debug__" : Str)) = false := by decide)
    (hc : eval (.Call (.Attribute (.Name y yp) nm apos) [] [] cpos) C.env = (do
      let ov ← eval (.Name y yp) C.env
      standAt apos.atName
      let (f, first) ← holding [ov] (getMethod ov nm pl)
      callWith cpos f first (backTo cpos (starEach [] C.env)) []) := by rfl) : Ev C ρ fo (n, i + 2) (.Call (.Attribute (.Name y yp) nm apos) [] [] cpos) d p1 :=
  fun B mu K₀ fa K s Q E S q => MethodCall_ (Ev.name hy hyd B mu K₀ fa K s _ E S fun v h1 tk1 K1 k1 S1 r1 => by
    have MA' := MA
    obtain ⟨md, cd, h2, h4⟩ := MA'
    rw [r1.hd_inv, X.hx]
    obtain ⟨g1, n', h1', t1, t2, h2', t3, t4, g2⟩ := X.rds S1
    refine PySem.W.method_fn (s := { s with heap := h1, toks := tk1 }) (RF.kx.keeps S1.gk) ⟨g1, rfl, rfl, g2⟩ RF.ga RF.gk hf ht (hsh ..) ?_
    refine Calls.callWith_function (fd := mfd nm qual 20 m md cd) (evalArgs_ns rfl (Calls.spliced_nil ⟨⟨S1.gk _ _ h2, rfl⟩, ?_⟩))
    exact call_meth (ps := [("self", .hd 7)]) (s := { s with heap := h1, toks := tk1 }) S1 W MA hl hs hb (.cons (.hd 7 X.hx.symm) .nil) body fun v h5 tk5 K5 k5 S5 r5 => q v h5 tk5 K5 (k1.trans k5) S5 r5) hc
theorem Ev.varint (X : RdC C x dx rc l) (W : Wd C) (hl : 3 ≤ C.lv) {y : Str} {yp apos cpos : Pos} {pl : Sem Bool} (hy : ρ.get y = some (.hd 7)) {pre post : List UInt8} {v : Int} (hlq : l = pre ++ (enc v ++ post)) (hv : sm v) (hyd : (y == ("__debug__" : Str)) = false := by decide)
    (hc : eval (.Call (.Attribute (.Name y yp) "varint" apos) [] [] cpos) C.env = (do
      let ov ← eval (.Name y yp) C.env
      standAt apos.atName
      let (f, first) ← holding [ov] (getMethod ov "varint" pl)
      callWith cpos f first (backTo cpos (starEach [] C.env)) []) := by rfl) :
    Ev C ρ fo (n, pre.length + 2) (.Call (.Attribute (.Name y yp) "varint" apos) [] [] cpos) (.int v) (n, (pre ++ enc v).length + 2) := by
  obtain ⟨KF, fi, fl, fv, RF⟩ := X.rf W
  refine Ev.rmeth X W RF RF.v RF.tv RF.ov (fun _ _ _ _ _ _ _ => rfl) (by omega) rfl (fun md cd vs h => by match vs, h with | [a], _ => rfl) hy (fun L cd => ?_) hyd hc
  have X' : RdC (C.callee "Reader.varint" (mS 20 5) L fv cd) x dx rc l := X.callee
  have W' : Wd (C.callee "Reader.varint" (mS 20 5) L fv cd) := W.callee
  have hg := fn_get_varint (st := (n, pre.length + 2)) W' (by show 2 ≤ C.lv - 1; omega) pre post v hv.1 hv.2
  rw [← hlq] at hg
  refine Exs.cons (Ex.assignFA X' W' (i := pre.length) (j := (pre ++ enc v).length) (Ev.callF (Es.cons (Ev.rdata X' W' rfl) (Es.cons (Ev.rat X' W' rfl) Es.nil)) hg) (Or.inl rfl) (Or.inr rfl) rfl rfl ?_)
  exact Exs.cons (Ex.ret (Ev.name rfl) ⟨Or.inl rfl, rfl⟩)
theorem Ev.left (X : RdC C x dx rc l) (W : Wd C) (hl : 3 ≤ C.lv) {y : Str} {yp apos cpos : Pos} {pl : Sem Bool} (hy : ρ.get y = some (.hd 7)) (hyd : (y == ("__debug__" : Str)) = false := by decide)
    (hc : eval (.Call (.Attribute (.Name y yp) "left" apos) [] [] cpos) C.env = (do
      let ov ← eval (.Name y yp) C.env
      standAt apos.atName
      let (f, first) ← holding [ov] (getMethod ov "left" pl)
      callWith cpos f first (backTo cpos (starEach [] C.env)) []) := by rfl) :
    Ev C ρ fo (n, i + 2) (.Call (.Attribute (.Name y yp) "left" apos) [] [] cpos) (.int ((l.length : Int) - (i : Int))) (n, i + 2) := by
  obtain ⟨KF, fi, fl, fv, RF⟩ := X.rf W
  refine Ev.rmeth X W RF RF.l RF.tl RF.ol (fun _ _ _ _ _ _ _ => rfl) (by omega) rfl (fun md cd vs h => by match vs, h with | [a], _ => rfl) hy (fun L cd => ?_) hyd hc
  have X' : RdC (C.callee "Reader.left" (mS 20 1) L fl cd) x dx rc l := X.callee
  have W' : Wd (C.callee "Reader.left" (mS 20 1) L fl cd) := W.callee
  exact Exs.cons (Ex.ret (Ev.bin (Ev.callB rfl (Es.cons (Ev.rdata X' W' rfl) Es.nil) (.lenB _)) (Ev.rat X' W' rfl) (.subI _ _)) ⟨Or.inl rfl, rfl⟩)
/-- the reader made ready -/
theorem init_body (X : RdC C x dx rc l) (W : Wd C) {f : Addr} (L : Addr) (cd : Value) : Exs (C.callee "Reader.__init__" (mS 20 0) L f cd) (ro0 (mS 20 0) [("self", .hd 7), ("data", .bytes l)]) none (n, 0) (mB 20 0) (fun fl _ _ st' => (fl = .ret .none ∨ (fl = .next ∧ Dt.none = .none)) ∧ st' = (n, 0 + 2)) := by
  have X' : RdC (C.callee "Reader.__init__" (mS 20 0) L f cd) x dx rc l := X.callee
  have W' : Wd (C.callee "Reader.__init__" (mS 20 0) L f cd) := W.callee
  intro B mu K₀ fa K s Q E S q
  refine wpAny_execs_cons (plainObj_wpAny_Assign_Attribute (Ev.name (d := .bytes l) rfl rfl B mu K₀ fa K s _ E S fun v h1 tk1 K1 k1 S1 r1 => Ev.name (d := .hd 7) rfl rfl B mu K₀ fa K1 { s with heap := h1, toks := tk1 } _ E S1 fun u h2 tk2 K2 k2 S2 r2 => ?_))
  rw [r2.hd_inv, X'.hx]
  refine X'.setData W' (s := { s with heap := h2, toks := tk2 }) S2 (r1.mono k2) fun h3 tk3 S3 => ?_
  refine wpAny_execs_cons (plainObj_wpAny_Assign_Attribute (Ev.cint (i := 0) (k := 0) (pos := ⟨0, 0, 0, 0⟩) B mu K₀ fa K2 { s with heap := h3, toks := tk3 } _ E S3 fun v h4 tk4 K4 k4 S4 r4 => Ev.name (d := .hd 7) rfl rfl B mu K₀ fa K4 { s with heap := h4, toks := tk4 } _ E S4 fun u h5 tk5 K5 k5 S5 r5 => ?_))
  rw [r5.hd_inv, X'.hx]
  refine X'.setAt1 W' (s := { s with heap := h5, toks := tk5 }) (j := 0) S5 (r4.mono k5) fun h6 tk6 S6 => wpAny_execs_nil ?_
  exact q .next h6 tk6 K5 fa .next _ none (n, 0 + 2) ⟨Or.inr ⟨rfl, rfl⟩, rfl⟩ (((k1.trans k2).trans k4).trans k5) S6 trivial
end
end Mine
end
section
open PySem PyProof.Rows
set_option linter.unusedVariables false
set_option linter.unusedSimpArgs false
namespace Mine
mutual
noncomputable def noHd : Dt → Bool
  | .hd _ => false
  | .tup ds => noHds ds
  | .lst ds => noHds ds
  | _ => true
noncomputable def noHds : List Dt → Bool
  | [] => true
  | d :: r => noHd d && noHds r
end
section
variable {hv hv' : Nat → Value} {K : Kn}
mutual
theorem Rd.rehv : ∀ {v : Value} {d : Dt}, Rd hv K v d → noHd d = true → Rd hv' K v d
  | _, _, .none, _ => .none
  | _, _, .bool b, _ => .bool b
  | _, _, .int i t, _ => .int i t
  | _, _, .bytes t e l, _ => .bytes t e l
  | _, _, .tup e c d l r, q => .tup e c d l (Rds.rehv r (by rw [noHd] at q; exact q))
  | _, _, .lst e c d l r, q => .lst e c d l (Rds.rehv r (by rw [noHd] at q; exact q))
  | _, _, .hd j e, q => by rw [noHd] at q; cases q
theorem Rds.rehv : ∀ {vs : List Value} {ds : List Dt}, Rds hv K vs ds → noHds ds = true → Rds hv' K vs ds
  | _, _, .nil, _ => .nil
  | _, _, .cons h r, q => by
    rw [noHds, Bool.and_eq_true] at q
    exact .cons (Rd.rehv h q.1) (Rds.rehv r q.2)
end
end
theorem noHds_rng (rs : List (Int × Int)) : noHds (rng rs) = true := by
  induction rs with
  | nil => rfl
  | cons p r ih => show (noHd (pr p) && noHds (rng r)) = true; rw [ih]; rfl
noncomputable def Cx.rdr (C : Cx Nat) (x dx rc : Addr) (l : List UInt8) : Cx (Nat × Nat) :=
  { lv := C.lv, prog := C.prog, w := C.w, A := C.A, env := C.env, g₀ := C.g₀, mg := C.mg, mb := C.mb, stc := C.stc, hv := fun k => if k = 7 then .ref x else C.hv k, fp := x :: dx :: C.fp, Sg := fun p h => C.Sg p.1 h ∧ RdS x dx rc l p.2 h }
section
variable {C : Cx Nat} {ρ ρ' : Ro} {fo : Option (List Dt)} {x dx rc : Addr} {l : List UInt8} {B : Heap} {mu : List Addr} {K₀ : Kn} {fa : Addr} {K : Kn} {h h' : Heap} {n k i j : Nat}
theorem RdS.stable {h h' : Heap} (k : ∀ b ∈ [x, dx], ∀ o, h.get? b = some o → h'.get? b = some o) {i : Nat} (r : RdS x dx rc l i h) : RdS x dx rc l i h' := by
  obtain ⟨g1, g2⟩ := r
  refine ⟨k x (by simp) _ g1, ?_⟩
  match i, g2 with
  | 0, ⟨n, g⟩ => exact ⟨n, k dx (by simp) _ g⟩
  | 1, ⟨n, h1, t1, t2, g⟩ => exact ⟨n, h1, t1, t2, k dx (by simp) _ g⟩
  | i + 2, ⟨n, h1, t1, t2, h2, t3, t4, g⟩ => exact ⟨n, h1, t1, t2, h2, t3, t4, k dx (by simp) _ g⟩
theorem Cx.rdr_c (ok : C.Ok) (ne : x ≠ dx) (hl : l.length ≤ lim) (hn : C.mg "Reader" = some (.ref rc)) (hdx : dx ∉ C.fp) : RdC (C.rdr x dx rc l) x dx rc l :=
  ⟨rfl, by simp [Cx.rdr], by simp [Cx.rdr], ne, hl, hn, C.Sg, rfl, fun n h h' k s => ok.sgk n h h' (fun a ha o e => k a (by simp [Cx.rdr, ha]) (fun z => hdx (z ▸ ha)) o e) s⟩
theorem Wd.rdr (W : Wd C) : Wd (C.rdr x dx rc l) := by
  refine ⟨W.nl, W.fn, ?_, ?_, ?_, W.c4, W.rf⟩
  · obtain ⟨v, h1, h2⟩ := W.c1; obtain ⟨t, rfl⟩ := h2.int_inv; exact ⟨_, h1, .int ..⟩
  · obtain ⟨v, h1, h2⟩ := W.c2; obtain ⟨t, rfl⟩ := h2.int_inv; exact ⟨_, h1, .int ..⟩
  · obtain ⟨v, h1, h2⟩ := W.c3; obtain ⟨t, rfl⟩ := h2.int_inv; exact ⟨_, h1, .int ..⟩
theorem St.toR (S : St C B mu K₀ fa ρ none K n h) (hx : h.get? x = some (PySem.W.instObj rc dx)) (hd : h.get? dx = some PySem.W.emptyDict) (kx : K x = none) (kd : K dx = none) (nx : x ∉ ownL C fa none ++ C.fp) (nd : dx ∉ ownL C fa none ++ C.fp) (ne : x ≠ dx)
    (ncell : ∀ y c, C.env.cells.lookup y = some c → c ∈ ownL C fa none) (hre : ∀ y d, ρ.get y = some d → noHd d = true) : St (C.rdr x dx rc l) B mu K₀ fa ρ none K (n, 0) h := by
  obtain ⟨m, hm, hr, hf⟩ := S.fr
  have o := S.ok
  have eo : ownL (C.rdr x dx rc l) fa none = ownL C fa none := rfl
  have nx1 : x ∉ ownL C fa none := fun z => nx (List.mem_append.mpr (.inl z))
  have nd1 : dx ∉ ownL C fa none := fun z => nd (List.mem_append.mpr (.inl z))
  have nx2 : x ∉ C.fp := fun z => nx (List.mem_append.mpr (.inr z))
  have nd2 : dx ∉ C.fp := fun z => nd (List.mem_append.mpr (.inr z))
  exact {
    ok := {
      hh := o.hh
      room := o.room
      bl := o.bl
      kind := o.kind
      glob := o.glob
      bui := o.bui
      g := o.g
      b := o.b
      sgk := fun st h h' k s => ⟨o.sgk _ _ _ (fun a ha e => k a (List.mem_cons_of_mem _ (List.mem_cons_of_mem _ ha)) e) s.1, s.2.stable fun b hb => k b (by rcases List.mem_cons.mp hb with rfl | hb; exact List.mem_cons_self; rw [List.mem_singleton.mp hb]; exact List.mem_cons_of_mem _ List.mem_cons_self)⟩
      cl := o.cl
      ci := o.ci
      cf := fun y c hy hm' => by
        have hc := ncell y c hy
        have hm'' : c ∈ x :: dx :: C.fp := hm'
        rcases List.mem_cons.mp hm'' with rfl | hm''
        · exact nx1 hc
        · rcases List.mem_cons.mp hm'' with rfl | hm''
          · exact nd1 hc
          · exact o.cf y c hy hm'' }
    base := fun b o e hb hf' => S.base b o e hb fun z => hf' (List.mem_cons_of_mem _ (List.mem_cons_of_mem _ z))
    ex := S.ex
    kx := S.kx
    kn := S.kn
    top := S.top
    mt := fun a ha => by
      rw [eo] at ha
      rcases List.mem_append.mp ha with ha | ha
      · exact S.mt a (List.mem_append.mpr (.inl ha))
      · have ha' : a ∈ x :: dx :: C.fp := ha
        rcases List.mem_cons.mp ha' with rfl | ha'
        · exact ⟨kx, by rw [hx]; rfl⟩
        · rcases List.mem_cons.mp ha' with rfl | ha'
          · exact ⟨kd, by rw [hd]; rfl⟩
          · exact S.mt a (List.mem_append.mpr (.inr ha'))
    ow := S.ow
    nd := by
      have nd := S.nd
      rw [eo]
      show (ownL C fa none ++ (x :: dx :: C.fp)).Nodup
      rw [List.nodup_append] at nd ⊢
      refine ⟨nd.1, List.nodup_cons.mpr ⟨by simp [ne, nx2], List.nodup_cons.mpr ⟨nd2, nd.2.1⟩⟩, fun a ha b hb e => ?_⟩
      rcases List.mem_cons.mp hb with rfl | hb
      · exact nx1 (e ▸ ha)
      · rcases List.mem_cons.mp hb with rfl | hb
        · exact nd1 (e ▸ ha)
        · exact nd.2.2 a ha b hb e
    fr := ⟨m, hm, fun y d e => by
      obtain ⟨v, l', r⟩ := hr y d e
      exact ⟨v, l', r.rehv (hre y d e)⟩, fun _ e => by cases e⟩
    fl := fun _ e => by cases e
    ce := S.ce
    sg := ⟨S.sg, hx, 0, hd⟩ }
theorem St.ofR {fa' : Addr} {K' : Kn} {p : Nat × Nat} (ok : C.Ok) (S' : St (C.rdr x dx rc l) B mu K₀ fa' ρ' fo K' p h') (bx : B.get? x = none) (bd : B.get? dx = none) : St C B mu K₀ fa' [] none K' p.1 h' := by
  obtain ⟨m, hm, _, _⟩ := S'.fr
  have e1 : ownL C fa' none = C.env.locals :: C.stc.map (·.2) := by simp [ownL]
  have e2 : ∃ t, ownL (C.rdr x dx rc l) fa' fo = ownL C fa' none ++ t := by
    rw [e1]
    cases fo with
    | none => exact ⟨[], rfl⟩
    | some _ => exact ⟨[fa'], rfl⟩
  obtain ⟨t, e2⟩ := e2
  have sub : ∀ a ∈ ownL C fa' none, a ∈ ownL (C.rdr x dx rc l) fa' fo := fun a ha => by
    rw [e2]; exact List.mem_append.mpr (.inl ha)
  exact {
    ok := ok
    base := fun b o e hb hf' => S'.base b o e hb fun z => by
      rcases List.mem_cons.mp z with rfl | z
      · rw [bx] at e; cases e
      · rcases List.mem_cons.mp z with rfl | z
        · rw [bd] at e; cases e
        · exact hf' z
    ex := S'.ex
    kx := S'.kx
    kn := S'.kn
    top := S'.top
    mt := fun a ha => by
      rcases List.mem_append.mp ha with ha | ha
      · exact S'.mt a (List.mem_append.mpr (.inl (sub a ha)))
      · exact S'.mt a (List.mem_append.mpr (.inr (List.mem_cons_of_mem _ (List.mem_cons_of_mem _ ha))))
    ow := fun a ha => S'.ow a (sub a ha)
    nd := by
      have nd := S'.nd
      rw [List.nodup_append] at nd ⊢
      refine ⟨?_, ?_, fun a ha b hb => nd.2.2 a (sub a ha) b (List.mem_cons_of_mem _ (List.mem_cons_of_mem _ hb))⟩
      · have := nd.1
        rw [e2, List.nodup_append] at this
        exact this.1
      · have := nd.2.1
        exact (List.nodup_cons.mp (List.nodup_cons.mp this).2).2
    fr := ⟨m, hm, fun y d e => (by cases e), fun _ e => (by cases e)⟩
    fl := fun _ e => by cases e
    ce := S'.ce
    sg := S'.sg.1 }
noncomputable def Cx.at' {σ : Type} (C : Cx σ) (A' : Around) (n : Nat) : Cx σ := { C with A := A', lv := n }
theorem St.around {σ : Type} {C : Cx σ} {A' : Around} {n : Nat} {st : σ} (S : St C B mu K₀ fa ρ fo K st h) (hh : A'.handled = none) (hr : Room A' n) : St (C.at' A' n) B mu K₀ fa ρ fo K st h :=
  { ok := { S.ok with hh := hh, room := hr }, base := S.base, ex := S.ex, kx := S.kx, kn := S.kn, top := S.top, mt := S.mt, ow := S.ow, nd := S.nd, fr := S.fr, fl := S.fl, ce := S.ce, sg := S.sg }
theorem St.unaround {σ : Type} {C : Cx σ} {A' : Around} {n : Nat} {st : σ} (S : St (C.at' A' n) B mu K₀ fa ρ fo K st h) (hh : C.A.handled = none) (hr : Room C.A C.lv) : St C B mu K₀ fa ρ fo K st h :=
  { ok := { S.ok with hh := hh, room := hr }, base := S.base, ex := S.ex, kx := S.kx, kn := S.kn, top := S.top, mt := S.mt, ow := S.ow, nd := S.nd, fr := S.fr, fl := S.fl, ce := S.ce, sg := S.sg }
theorem Wd.at' {σ : Type} {C : Cx σ} {A' : Around} {n : Nat} (W : Wd C) : Wd (C.at' A' n) := ⟨W.nl, W.fn, W.c1, W.c2, W.c3, W.c4, W.rf⟩
theorem RdC.at' {C : Cx (Nat × Nat)} {A' : Around} {n : Nat} (X : RdC C x dx rc l) : RdC (C.at' A' n) x dx rc l := { X with }
/-- the reader made -/
theorem make_reader {s : Shared} {v : Value} {Q E : Value → Shared → Prop} (S : St C B mu K₀ fa ρ none K n s.heap) (W : Wd C) (hl : 2 ≤ C.lv) {KF : PySem.W.Frag} {fi fl fv : Addr} (RF : RdF C.g₀ C.mg KF rc fi fl fv) (r : Rd C.hv K v (.bytes l))
    (ncell : ∀ y c, C.env.cells.lookup y = some c → c ∈ ownL C fa none) (hre : ∀ y d, ρ.get y = some d → noHd d = true)
    (q : ∀ x dx h' tk K', KLe K K' → RdC (C.rdr x dx rc l) x dx rc l → St (C.rdr x dx rc l) B mu K₀ fa ρ none K' (n, 0 + 2) h' → B.get? x = none → B.get? dx = none → Q (.ref x) { s with heap := h', toks := tk }) :
    wpAny (model C.prog C.w) C.A (call (.ref rc) [v]) Q E s := by
  obtain ⟨hh, g, d, t, os⟩ := s
  obtain ⟨tb, rfl, hbl⟩ := r.bytes_inv
  have X : KF.In hh := RF.kx.keeps S.gk
  refine wpAny_call (PySem.W.make_core (PySem.W.makes_of X RF.mks) (PySem.W.looks_findIn X RF.i) (fun self => PySem.W.bind_fn X self RF.ti) (.inl rfl) ?_)
  generalize hx : hh.objs.size + 1 = x
  generalize hdx : hh.objs.size = dx
  have e1 : (hh.push PySem.W.emptyDict).objs.size = hh.objs.size + 1 := Heap.size_push ..
  have dn : hh.get? dx = none := hdx ▸ size_none hh
  have xn : (hh.push PySem.W.emptyDict).get? x = none := by rw [← hx, ← e1]; exact size_none _
  have ne : x ≠ dx := by omega
  obtain ⟨d1, d2, d3⟩ := S.fresh_out dn
  have S1 := S.pushed PySem.W.emptyDict
  obtain ⟨x1, x2, x3⟩ := S1.fresh_out xn
  have S2 := S1.pushed (PySem.W.instObj rc dx)
  have gx : ((hh.push PySem.W.emptyDict).push (PySem.W.instObj rc dx)).get? x = some (PySem.W.instObj rc dx) := by rw [← hx, ← e1]; exact Heap.get?_push_size _ rfl
  have gd : ((hh.push PySem.W.emptyDict).push (PySem.W.instObj rc dx)).get? dx = some PySem.W.emptyDict := by
    refine Heap.get?_push_of_some _ ?_
    rw [← hdx]; exact Heap.get?_push_size _ rfl
  have S3 : St (C.rdr x dx rc l) B mu K₀ fa ρ none K (n, 0) _ := S2.toR gx gd x1 d1 x3 d3 ne ncell hre
  have RC : RdC (C.rdr x dx rc l) x dx rc l := Cx.rdr_c S.ok ne hbl RF.nm fun z => d3 (List.mem_append.mpr (.inr z))
  have hroom := S.ok.room
  have S4 := S3.around (A' := C.A.under (.builtin "type.__call__" ⟨[.ref rc, .bytes l.toArray tb], []⟩)) (n := C.lv - 1) S.ok.hh (by
    have a1 : (C.A.under (.builtin "type.__call__" ⟨[.ref rc, .bytes l.toArray tb], []⟩)).depth = C.A.depth + 1 := rfl
    have a2 : (C.A.under (.builtin "type.__call__" ⟨[.ref rc, .bytes l.toArray tb], []⟩)).units = C.A.units + 1 := rfl
    unfold Room at hroom ⊢
    rw [a1, a2]
    omega)
  refine code_meth (ps := [("self", .hd 7), ("data", .bytes l)]) (st1 := (n, 0 + 2)) (s := ⟨(hh.push PySem.W.emptyDict).push (PySem.W.instObj rc dx), g, d, t, os⟩) S4 W.rdr.at' RF.oi (by show 1 ≤ C.lv - 1; omega) (by show sigOk (mS 20 0) ["self", "data"] = true; decide) (fun md cd vs e => ?_) (.cons (by rw [← hx]; exact .hd 7 rfl) (.cons (.bytes tb rfl hbl) .nil)) (fun L cd => init_body RC.at' W.rdr.at' L cd) fun v' h' tk K' k' S5 r5 => ?_
  · match vs, e with
    | [a, b], _ => rfl
  · rw [r5.none_inv]
    refine ⟨rfl, ?_⟩
    have S6 : St (C.rdr x dx rc l) B mu K₀ fa ρ none K' (n, 0 + 2) h' := S5.unaround S.ok.hh hroom
    have bn : ∀ b, hh.get? b = none → B.get? b = none := fun b e => by
      cases hb : B.get? b with
      | none => rfl
      | some o => have := S.ex b (by rw [hb]; rfl); rw [show (hh.get? b).isSome = _ from congrArg _ e] at this; cases this
    refine q x dx h' tk K' k' RC S6 (bn x ?_) (bn dx dn)
    cases hb : hh.get? x with
    | none => rfl
    | some o => rw [Heap.get?_push_of_some _ hb] at xn; cases xn
end
end Mine
end
section
open PySem PyProof.Rows
set_option linter.unusedVariables false
set_option linter.unusedSimpArgs false
namespace Mine
/-- what the top has left, in a heap -/
structure Wf (h : Heap) (mg mb : Str → Option Value) : Prop where
  g : h.Ns mainGlobals mg
  b : h.Ns builtinsNs mb
  bl : ∀ x v, builtF.lookup x = some v → mg x = none ∧ mb x = some v
  nl : h.NoLimit
  fn : ∀ i n, dN i = n → n ≠ "" → ∃ a o pm cd doc, mg n = some (.ref a) ∧ h.get? a = some o ∧ o.data = .func (Calls.docDef n (dP i) (dB i) (dS i) pm cd doc) ∧ h.CodeRec cd n
  c1 : ∃ t, mg "INTERNAL_ERROR" = some (.int 1 t)
  c2 : ∃ t, mg "FRAME_ENCODING_ERROR" = some (.int 7 t)
  c3 : ∃ t, mg "ACK_TYPE" = some (.int 2 t)
  c4 : ∃ a o vs n, mg "VARINT_SIZES" = some (.ref a) ∧ h.get? a = some o ∧ o.cls = .type "tuple" ∧ o.dict = none ∧ o.data = .seq vs.toArray n ∧ IntsAre vs [1, 2, 4, 8]
  rf : ∃ K rc fi fl fv, RdF h mg K rc fi fl fv
noncomputable def lawC (prog : Program) (w : World) (h : Heap) (mg mb : Str → Option Value) : Cx Nat :=
  { lv := 9, prog := prog, w := w, A := callerA, env := { scope := dS 39, locals := 0, globals := mainGlobals, cells := [], qual := "", func := none, code := .none, frame := none, builtins := builtinsNs }, g₀ := h, mg := mg, mb := mb, stc := [], hv := fun _ => .none, fp := [], Sg := fun _ _ => True }
theorem lawC_wd {prog : Program} {w : World} {h : Heap} {mg mb : Str → Option Value} (W : Wf h mg mb) : Wd (lawC prog w h mg mb) := by
  refine ⟨W.nl, W.fn, ?_, ?_, ?_, W.c4, W.rf⟩
  · obtain ⟨t, h1⟩ := W.c1; exact ⟨_, h1, .int ..⟩
  · obtain ⟨t, h1⟩ := W.c2; exact ⟨_, h1, .int ..⟩
  · obtain ⟨t, h1⟩ := W.c3; exact ⟨_, h1, .int ..⟩
noncomputable def EndsOk (prog : Program) (w : World) (h : Heap) (mg mb : Str → Option Value) : Prop :=
  ∀ (bx ba : Addr) (xs : List Int) (a : Addr) (cd : Value) (n : Nat), BoxC ((lawC prog w h mg mb).boxed bx ba xs) bx ba xs → FnOk (((lawC prog w h mg mb).boxed bx ba xs).callee "law" (dS 39) h.objs.size a cd) "_law_ends_right" [.hd 0] n (.bool true) (n + 3)
noncomputable def ReadOk : Prop := ∀ {lo hi : Int} {rs : List (Int × Int)} {ns : List Int} {st : Nat}, Hdd ns lo hi rs → ∀ {C' : Cx Nat}, Wd C' → 5 ≤ C'.lv → FnOk C' "_law_read" [.bytes (putR 70 lo hi rs)] st (.tup [.int 70, .lst (rng ((lo, hi) :: rs))]) st
end Mine
end
section
open PySem PyProof.Rows
set_option linter.unusedVariables false
set_option linter.unusedSimpArgs false
namespace Mine
theorem cmp_pairs {σ : Type} {step : Dt → Option Dt → Nat × Nat → Nat × Nat → Prop} {l : List UInt8} {n : Nat}
    (hs : ∀ d pre post (p : Int × Int), sm p.1 → sm p.2 → l = pre ++ (enc p.1 ++ enc p.2 ++ post) → step d (some (pr p)) (n, pre.length + 2) (n, (pre ++ (enc p.1 ++ enc p.2)).length + 2)) :
    ∀ (ps : List (Int × Int)) (pre post : List UInt8) (ds : List Dt), ds.length = ps.length → (∀ p ∈ ps, sm p.1 ∧ sm p.2) → l = pre ++ (encP ps ++ post) → Cmp step ds (n, pre.length + 2) (rng ps) (n, (pre ++ encP ps).length + 2) := by
  intro ps
  induction ps with
  | nil =>
    intro pre post ds e _ _
    match ds, e with
    | [], _ => rw [show encP [] = [] from rfl, List.append_nil]; exact .nil
  | cons p r ih =>
    intro pre post ds e h1 h2
    match ds, e with
    | d :: ds, e =>
      have e1 : encP (p :: r) = enc p.1 ++ enc p.2 ++ encP r := rfl
      have hp := h1 p List.mem_cons_self
      have := ih (pre ++ (enc p.1 ++ enc p.2)) post ds (by simpa using e) (fun q hq => h1 q (List.mem_cons_of_mem _ hq)) (by rw [h2, e1]; simp only [List.append_assoc])
      refine Cmp.keep (st1 := (n, (pre ++ (enc p.1 ++ enc p.2)).length + 2)) (hs d pre (encP r ++ post) p hp.1 hp.2 (by rw [h2, e1]; simp only [List.append_assoc])) ?_
      rw [e1, show pre ++ (enc p.1 ++ enc p.2 ++ encP r) = pre ++ (enc p.1 ++ enc p.2) ++ encP r by simp only [List.append_assoc]]
      exact this
section
variable {C : Cx (Nat × Nat)} {x dx rc : Addr} {l : List UInt8} {n : Nat}
theorem Ev.varint' {ρ : Ro} {fo : Option (List Dt)} (X : RdC C x dx rc l) (W : Wd C) (hl : 3 ≤ C.lv) {y : Str} {yp apos cpos : Pos} {pl : Sem Bool} {a b : Nat} (hy : ρ.get y = some (.hd 7)) (pre post : List UInt8) {v : Int} (hlq : l = pre ++ (enc v ++ post)) (hv : sm v) (ha : a = pre.length + 2) (hb : b = (pre ++ enc v).length + 2) (hyd : (y == ("__debug__" : Str)) = false := by decide)
    (hc : eval (.Call (.Attribute (.Name y yp) "varint" apos) [] [] cpos) C.env = (do
      let ov ← eval (.Name y yp) C.env
      standAt apos.atName
      let (f, first) ← holding [ov] (getMethod ov "varint" pl)
      callWith cpos f first (backTo cpos (starEach [] C.env)) []) := by rfl) :
    Ev C ρ fo (n, a) (.Call (.Attribute (.Name y yp) "varint" apos) [] [] cpos) (.int v) (n, b) := by
  subst ha; subst hb
  exact Ev.varint X W hl hy hlq hv hyd hc
theorem read_rest (X : RdC C x dx rc l) (W : Wd C) (hl : 4 ≤ C.lv) (L a : Addr) (cd : Value) {lo hi : Int} {rs : List (Int × Int)} {ns : List Int} (H : Hdd ns lo hi rs) (hq : l = putR 70 lo hi rs) :
    Exs (C.callee "_law_read" (dS 35) L a cd) [("octets", some (.bytes l)), ("reader", some (.hd 7)), ("largest", none), ("delay", none), ("many", none), ("first", none), ("pairs", none)] none (n, 0 + 2) ((dB 35).drop 1) (fun fl _ _ st' => fl = .ret (.tup [.int 70, .lst (rng ((lo, hi) :: rs))]) ∧ st'.1 = n) := by
  have X' : RdC (C.callee "_law_read" (dS 35) L a cd) x dx rc l := X.callee
  have W' : Wd (C.callee "_law_read" (dS 35) L a cd) := W.callee
  have hl' : 3 ≤ (C.callee "_law_read" (dS 35) L a cd).lv := by show 3 ≤ C.lv - 1; omega
  have hlr : rs.length ≤ 9 := H.len
  obtain ⟨s1, s2, s3⟩ := H.sm1
  obtain ⟨b1, hb1⟩ : ∃ b, b = ([] ++ enc hi : List UInt8).length + 2 := ⟨_, rfl⟩
  obtain ⟨b2, hb2⟩ : ∃ b, b = (enc hi ++ enc 70 : List UInt8).length + 2 := ⟨_, rfl⟩
  obtain ⟨b3, hb3⟩ : ∃ b, b = (enc hi ++ enc 70 ++ enc (rs.length : Int) : List UInt8).length + 2 := ⟨_, rfl⟩
  obtain ⟨pre, hpre⟩ : ∃ p : List UInt8, p = enc hi ++ enc 70 ++ enc (rs.length : Int) ++ enc (hi - lo) := ⟨_, rfl⟩
  have e0 : l = enc hi ++ (enc 70 ++ enc (rs.length : Int) ++ enc (hi - lo) ++ encP (gapsL lo rs)) := by rw [hq, putR]; simp only [List.append_assoc, List.nil_append]
  have e1 : l = enc hi ++ (enc 70 ++ (enc (rs.length : Int) ++ enc (hi - lo) ++ encP (gapsL lo rs))) := by rw [hq, putR]; simp only [List.append_assoc, List.nil_append]
  have e2 : l = (enc hi ++ enc 70) ++ (enc (rs.length : Int) ++ (enc (hi - lo) ++ encP (gapsL lo rs))) := by rw [hq, putR]; simp only [List.append_assoc, List.nil_append]
  have e3 : l = (enc hi ++ enc 70 ++ enc (rs.length : Int)) ++ (enc (hi - lo) ++ encP (gapsL lo rs)) := by rw [hq, putR]; simp only [List.append_assoc, List.nil_append]
  have e4 : l = pre ++ (encP (gapsL lo rs) ++ []) := by rw [hq, hpre, putR]; simp only [List.append_assoc, List.nil_append, List.append_nil]
  have s70 : sm 70 := ⟨by omega, by omega⟩
  have sr : sm (rs.length : Int) := ⟨by omega, by omega⟩
  refine Exs.cons (Ex.assignT (st1 := (n, pre.length + 2)) (Ev.tuple (Es.cons (Ev.varint' X' W' hl' rfl [] _ (e0.trans (List.nil_append _).symm) s1 rfl hb1) (Es.cons (Ev.varint' X' W' hl' rfl (enc hi) _ e1 s70 (by rw [hb1, List.nil_append]) hb2) (Es.cons (Ev.varint' X' W' hl' rfl (enc hi ++ enc 70) _ e2 sr hb2 hb3) (Es.cons (Ev.varint' X' W' hl' rfl (enc hi ++ enc 70 ++ enc (rs.length : Int)) _ e3 s2 hb3 (by rw [hpre])) Es.nil)))))
    (.cons (Or.inl rfl) (Or.inr rfl) rfl (.cons (Or.inl rfl) (Or.inr rfl) rfl (.cons (Or.inl rfl) (Or.inr rfl) rfl (.cons (Or.inl rfl) (Or.inr rfl) rfl .nil)))) ?_)
  refine Exs.cons (Ex.assignComp (st2 := (n, (pre ++ encP (gapsL lo rs)).length + 2)) (es := rng (gapsL lo rs)) (It.range1 (Es.cons (Ev.name rfl) Es.nil) (by omega) (by omega)) (cmp_pairs (σ := Nat) ?hcm (gapsL lo rs) pre [] _ (by rw [gapsL_len]; simp [ranD]) s3 e4) (fun x c h => PySem.mem_of_lookup h) (Or.inl rfl) (Or.inr rfl) rfl ?rest)
  case hcm =>
    intro d pre post p h1 h2 he L'
    refine ⟨_, .name (Or.inl rfl) (Or.inr rfl) rfl, _, Tif.nil, ?_⟩
    rw [show pre ++ (enc p.1 ++ enc p.2) = pre ++ enc p.1 ++ enc p.2 by simp only [List.append_assoc]]
    exact Ev.tuple (Es.cons (Ev.varint X'.comp W'.comp hl' rfl (pre := pre) (post := enc p.2 ++ post) (by rw [he]; simp only [List.append_assoc]) h1) (Es.cons (Ev.varint X'.comp W'.comp hl' rfl (pre := pre ++ enc p.1) (post := post) (by rw [he]; simp only [List.append_assoc]) h2) Es.nil))
  case rest =>
    have hlen : l.length = (pre ++ encP (gapsL lo rs)).length := by rw [e4, List.append_nil]
    refine Exs.cons (Ex.ite_f (Tst.cmp (Ev.left X' W' hl' rfl) Ev.cint (gt_f (by rw [hlen]; omega))) (Exs.nil ?_))
    have hfr := fn_ranges_of (st := (n, (pre ++ encP (gapsL lo rs)).length + 2)) W' (by omega) hi (hi - lo) (gapsL lo rs) (by have := H.lo0; omega) (by rw [show hi - (hi - lo) = lo by omega]; exact rangesOk_gaps rs lo H.low) (by rw [gapsL_len]; omega)
    rw [show hi - (hi - lo) = lo by omega, ranges_gaps] at hfr
    exact Exs.cons (Ex.ret (Ev.tuple (Es.cons (Ev.name rfl) (Es.cons (Ev.callF (Es.cons (Ev.name rfl) (Es.cons (Ev.name rfl) (Es.cons (Ev.name rfl) Es.nil))) hfr) Es.nil))) ⟨rfl, rfl⟩)
end
end Mine
end
section
open PySem PyProof.Rows
set_option linter.unusedVariables false
set_option linter.unusedSimpArgs false
namespace Mine
section
variable {C : Cx Nat} {l : List UInt8} {n : Nat}
theorem read_ok : ReadOk := by
  intro lo hi rs ns st H C W hl
  refine FnOk.of_body (i := 35) (ps := [("octets", .bytes (putR 70 lo hi rs))]) W rfl (by decide) (by omega) rfl (fun pm cd doc vs h => by match vs, h with | [a], _ => rfl) fun L a cd => ?_
  intro B mu K₀ fa K s Q E S q
  have W' : Wd (C.callee "_law_read" (dS 35) L a cd) := W.callee
  obtain ⟨KF, rc, fi, fl, fv, RF⟩ := W.rf
  have RF' : RdF (C.callee "_law_read" (dS 35) L a cd).g₀ (C.callee "_law_read" (dS 35) L a cd).mg KF rc fi fl fv := RF
  have hre : ∀ y d, (ro0 (dS 35) [("octets", .bytes (putR 70 lo hi rs))]).get y = some d → noHd d = true := fun y d e => by
    have h := ro0_get e
    by_cases hy : y = "octets"
    · subst hy; cases h; rfl
    · rw [List.lookup_cons, show (y == "octets") = false by simpa using hy] at h; cases h
  have ncell : ∀ y c, (C.callee "_law_read" (dS 35) L a cd).env.cells.lookup y = some c → c ∈ ownL (C.callee "_law_read" (dS 35) L a cd) fa none := fun y c e => by
    have : (y, c) ∈ (C.callee "_law_read" (dS 35) L a cd).stc := mem_of_lookup e
    exact List.mem_cons_of_mem _ (List.mem_append.mpr (.inl (List.mem_map.mpr ⟨_, this, rfl⟩)))
  show wpAny _ _ (execs ((dB 35).headD (.Pass ⟨0, 0, 0, 0⟩) :: (dB 35).drop 1) _) Q E s
  have arg : ∀ p, Es (C.callee "_law_read" (dS 35) L a cd) (ro0 (dS 35) [("octets", .bytes (putR 70 lo hi rs))]) none st [.Name "octets" p] [.bytes (putR 70 lo hi rs)] st := fun p => Es.cons (Ev.name rfl) Es.nil
  refine wpAny_execs_cons (wpAny_Assign_Name (wpAny_Call_NameR (S.globName rfl RF.nm (PySem.W.callWith_K (RF.kx.keeps S.gk) RF.keep (arg _ _ B mu K₀ fa K s _ E S fun vs h1 tk1 K1 k1 S1 r1 => ⟨RF.kx.keeps S1.gk, ?_⟩)) (by decide))) rfl)
  obtain ⟨v, r, rfl⟩ := r1.one'
  refine make_reader (s := { s with heap := h1, toks := tk1 }) S1 W' (by show 2 ≤ C.lv - 1; omega) RF' r ncell hre fun x dx h2 tk2 K2 k2 RC S2 bx bd => ?_
  refine S2.store (s := { s with heap := h2, toks := tk2 }) (x := "reader") (stor_cell (C := C) rfl) (.hd 7 rfl) rfl (Or.inr rfl) fun h3 tk3 S3 => ?_
  refine read_rest (C := (C.rdr x dx rc (putR 70 lo hi rs))) ⟨RC.hx, RC.fx, RC.fd, RC.ne, RC.len, RC.nm, RC.sg⟩ W.rdr (by show 4 ≤ C.lv; omega) L a cd H rfl B mu K₀ fa K2 { s with heap := h3, toks := tk3 } Q E S3 fun f h4 tk4 K4 fa4 fl ρ4 fo4 st4 p4 k4 S4 r4 => ?_
  obtain ⟨rfl, e4⟩ := p4
  have S5 := St.ofR S.ok S4 bx bd
  rw [e4] at S5
  refine q f h4 tk4 K4 fa4 _ [] none st ⟨rfl, rfl⟩ (k1.trans (k2.trans k4)) S5 ?_
  cases f with
  | ret u => exact Rd.rehv r4 (by show (noHd (.int 70) && (noHds (rng _) && true)) = true; rw [noHds_rng]; rfl)
  | _ => exact r4
end
end Mine
end
section
open PySem PyProof.Rows
set_option linter.unusedVariables false
set_option linter.unusedSimpArgs false
namespace Mine
/-- an exception object with its dict; all else of g stands, the frames up to their slots -/
structure Fly0 (F : List Addr) (g : Heap) (QC dx e : Addr) (tb : Value) (h : Heap) : Prop where
  keep : ∀ b o, b ∉ F → b ≠ e → g.get? b = some o → h.get? b = some o
  slots : ∀ b ∈ F, ∀ o, g.get? b = some o → ∃ sl, h.get? b = some { o with slots := sl }
  ge : (g.get? e).isSome = true
  eF : e ∉ F
  ex : ∃ vs sl, h.get? e = some { cls := .ref QC, dict := some dx, data := .fields vs, slots := sl } ∧ vs[1]? = some tb
/-- the same, its traceback told: fl is the frame that it flies in -/
structure Fly (F : List Addr) (g : Heap) (QC dx e : Addr) (fl : Value) (h : Heap) (T : Addr) : Prop extends Fly0 F g QC dx e (.ref T) h where
  eT : T ≠ e
  gT : g.get? T = none
  tr : ∃ oT ts, h.get? T = some oT ∧ oT.data = .fields ts ∧ ts[3]? = some fl
section
variable {M : Model} {A : Around} {E : Value → Shared → Prop} {s : Shared} {F : List Addr} {g h : Heap} {QC dx e T L : Addr} {tb fl : Value} {env : Env} {outer l : List Env}
theorem Fly0.frames (x : Fly0 F g QC dx e tb h) (G : g.FunFrames e0 l) (hF : ∀ b ∈ l.filterMap (·.frame), b ∈ F) : h.FunFrames e0 l := by
  induction l with
  | nil => trivial
  | cons env rest ih =>
    obtain ⟨hk, ⟨L, o, hf, hn, ho, hd⟩, hr⟩ := G
    have hF' : ∀ b ∈ rest.filterMap (·.frame), b ∈ F := fun b hb => hF b (by rw [List.filterMap_cons, hf]; exact List.mem_cons_of_mem _ hb)
    obtain ⟨sl, hs⟩ := x.slots L (hF L (by rw [List.filterMap_cons, hf]; exact List.mem_cons_self)) o ho
    exact ⟨hk, ⟨L, _, hf, hn, hs, hd⟩, ih hr hF'⟩
theorem fly_entry {head : Value} {b : Bool} {Q : Unit → Shared → Prop} (hfr : A.frames = some (env :: outer)) (G : g.FunFrames e0 (env :: outer)) (hF : ∀ b ∈ (env :: outer).filterMap (·.frame), b ∈ F) (hf : env.frame = some L)
    (x : Fly0 F g QC dx e tb s.heap) (hQ : ∀ h' T, Fly F g QC dx e (rawInt L) h' T → Q () { s with heap := h' }) :
    wpAny M A (do let a ← frameOf env; let pl ← entryPlaceOf L b; let t ← EntryCells.newEntry head a .none (rawInt L) .none pl; setField (.ref e) 1 t) Q E s := by
  refine wpAny_bind (wpAny_frameOf_fun hfr (x.frames G hF) hf fun h₁ hs₁ => wpAny_bind (wpAny_entryPlaceOf fun pl hpl => ?_))
  unfold EntryCells.newEntry newFields
  refine wpAny_bind (wpAny_newObj_type ?_ (hpl.sizeOk5 _ _ _ _ _))
  obtain ⟨vs, sl, he, h1⟩ := x.ex
  have hsz : 1 < vs.size := (Array.getElem?_eq_some_iff.mp h1).1
  have he₁ := (hs₁.2.1 e (fun z => x.eF (hF e z))).trans he
  generalize hO : ({ cls := .type "traceback", dict := none, data := .fields ([head, .ref L, .none, rawInt L, .none] ++ (if pl.isEmpty then List.replicate 6 Value.none else pl)).toArray } : Obj) = tobj
  have hOd : tobj.data = .fields ([head, .ref L, .none, rawInt L, .none] ++ (if pl.isEmpty then List.replicate 6 Value.none else pl)).toArray := by rw [← hO]
  have hOf : tobj.isFreed = false := by rw [← hO]; rfl
  have he₂ := Heap.get?_push_of_some (h := h₁) tobj he₁
  refine wpAny_setField he₂ rfl hsz (hQ _ h₁.objs.size ?_)
  have old : ∀ b o, b ≠ e → h₁.get? b = some o → ((h₁.push tobj).update e (Obj.mapFields (·.setIfInBounds 1 (Value.ref h₁.objs.size)))).get? b = some o := fun b o ne hb => by
    rw [Heap.get?_update_other _ _ (Ne.symm ne)]; exact Heap.get?_push_of_some _ hb
  have nT : h₁.objs.size ≠ e := Nat.ne_of_gt (Heap.lt_size he₁)
  have sz : h₁.objs.size = s.heap.objs.size := hs₁.1
  refine { keep := fun b o hb ne q => old b o ne ((hs₁.2.1 b fun z => hb (hF b z)).trans (x.keep b o hb ne q)), slots := fun b hb o q => ?_, ge := x.ge, eF := x.eF, ex := ?_, eT := nT, gT := ?_, tr := ?_ }
  · obtain ⟨sl1, q1⟩ := x.slots b hb o q
    obtain ⟨sl2, q2⟩ := hs₁.2.2 b _ q1
    exact ⟨sl2, old b _ (fun z => x.eF (z ▸ hb)) q2⟩
  · refine ⟨vs.setIfInBounds 1 (.ref h₁.objs.size), sl, ?_, by simp [hsz]⟩
    rw [Heap.get?_update_self _ he₂ rfl]; rfl
  · cases q : g.get? h₁.objs.size with
    | none => rfl
    | some o =>
      exfalso
      by_cases hb : h₁.objs.size ∈ F
      · obtain ⟨sl1, q1⟩ := x.slots _ hb o q
        exact Nat.lt_irrefl _ (sz ▸ Heap.lt_size q1)
      · exact Nat.lt_irrefl _ (sz ▸ Heap.lt_size (x.keep _ o hb nT q))
  · refine ⟨_, _, ?_, hOd, rfl⟩
    rw [Heap.get?_update_other _ _ (Ne.symm nT)]
    exact Heap.get?_push_size _ hOf
theorem note_first {Q : Unit → Shared → Prop} (hfr : A.frames = some (env :: outer)) (G : g.FunFrames e0 (env :: outer)) (hF : ∀ b ∈ (env :: outer).filterMap (·.frame), b ∈ F) (hf : env.frame = some L)
    (x : Fly0 F g QC dx e .none s.heap) (hQ : ∀ h' T, Fly F g QC dx e (rawInt L) h' T → Q () { s with heap := h' }) : wpAny M A (noteFrame (.ref e) env) Q E s := by
  obtain ⟨vs, sl, he, h1⟩ := x.ex
  unfold noteFrame
  simp only [hf]
  refine wpAny_bind (wpAny_field he rfl h1 ?_)
  rw [if_neg (by decide)]
  exact fly_entry hfr G hF hf x hQ
theorem fly_set {fl' : Value} {Q : Unit → Shared → Prop} (x : Fly F g QC dx e fl s.heap T) (hF : ∀ b ∈ F, (g.get? b).isSome = true) (hQ : ∀ h', Fly F g QC dx e fl' h' T → Q () { s with heap := h' }) : wpAny M A (setField (.ref T) 3 fl') Q E s := by
  obtain ⟨oT, ts, hT, hd, h3⟩ := x.tr
  have hsz : 3 < ts.size := (Array.getElem?_eq_some_iff.mp h3).1
  have hd' := Obj.data_mapFields hd (·.setIfInBounds 3 fl')
  have other : ∀ b, b ≠ T → (s.heap.update T (Obj.mapFields (·.setIfInBounds 3 fl'))).get? b = s.heap.get? b := fun b hb => Heap.get?_update_other _ _ (Ne.symm hb)
  refine wpAny_setField hT hd hsz (hQ _ ?_)
  refine { keep := fun b o hb ne q => (other b fun z => by rw [z, x.gT] at q; cases q).trans (x.keep b o hb ne q), slots := fun b hb o q => ?_, ge := x.ge, eF := x.eF, ex := ?_, eT := x.eT, gT := x.gT, tr := ⟨_, _, Heap.get?_update_self _ hT (Obj.isFreed_of_fields hd'), hd', by simp [hsz]⟩ }
  · obtain ⟨sl, q1⟩ := x.slots b hb o q
    exact ⟨sl, (other b fun z => by rw [z, x.gT] at q; cases q).trans q1⟩
  · obtain ⟨vs, sl, q1, q2⟩ := x.ex
    exact ⟨vs, sl, (other e (Ne.symm x.eT)).trans q1, q2⟩
theorem fly_flight {fr : Option Addr} {Q : Unit → Shared → Prop} (x : Fly F g QC dx e fl s.heap T) (hF : ∀ b ∈ F, (g.get? b).isSome = true) (hQ : ∀ h', Fly F g QC dx e (fr.elim .none fun f => rawInt f) h' T → Q () { s with heap := h' }) :
    wpAny M A (setFlight (.ref e) fr) Q E s := by
  obtain ⟨vs, sl, he, h1⟩ := x.ex
  unfold setFlight
  refine wpAny_bind (wpAny_field he rfl h1 ?_)
  rw [if_pos (show (Value.ref T != Value.none) = true from by simp)]
  exact fly_set x hF hQ
theorem note_next {Q : Unit → Shared → Prop} (hfr : A.frames = some (env :: outer)) (G : g.FunFrames e0 (env :: outer)) (hF : ∀ b ∈ (env :: outer).filterMap (·.frame), b ∈ F) (hg : ∀ b ∈ F, (g.get? b).isSome = true) (hf : env.frame = some L)
    (x : Fly F g QC dx e .none s.heap T) (hQ : ∀ h' T, Fly F g QC dx e (rawInt L) h' T → Q () { s with heap := h' }) : wpAny M A (noteFrame (.ref e) env) Q E s := by
  obtain ⟨vs, sl, he, h1⟩ := x.ex
  obtain ⟨oT, ts, hT, hd, h3⟩ := x.tr
  unfold noteFrame
  simp only [hf]
  refine wpAny_bind (wpAny_field he rfl h1 ?_)
  rw [if_pos (show (Value.ref T != Value.none) = true from by simp)]
  refine wpAny_bind (wpAny_field hT hd h3 ?_)
  rw [if_neg (show ¬ ((Value.none == rawInt L) = true) from by simp [rawInt])]
  exact wpAny_bind (fly_set x hg fun h' x' => fly_entry (s := { s with heap := h' }) hfr G hF hf x'.toFly0 hQ)
theorem note_again {Q : Unit → Shared → Prop} (hf : env.frame = some L) (x : Fly F g QC dx e (rawInt L) s.heap T) (h : Q () s) : wpAny M A (noteFrame (.ref e) env) Q E s := by
  obtain ⟨vs, sl, he, h1⟩ := x.ex
  obtain ⟨oT, ts, hT, hd, h3⟩ := x.tr
  unfold noteFrame
  simp only [hf]
  refine wpAny_bind (wpAny_field he rfl h1 ?_)
  rw [if_pos (show (Value.ref T != Value.none) = true from by simp)]
  refine wpAny_bind (wpAny_field hT hd h3 ?_)
  rw [if_pos (show (rawInt L == rawInt L) = true from by simp)]
  exact wpAny_pure h
/-- a frame left by a fresh exception -/
theorem leave_first {Q : Unit → Shared → Prop} (hfr : A.frames = some (env :: outer)) (G : g.FunFrames e0 (env :: outer)) (hF : ∀ b ∈ (env :: outer).filterMap (·.frame), b ∈ F) (hg : ∀ b ∈ F, (g.get? b).isSome = true) (hf : env.frame = some L)
    (x : Fly0 F g QC dx e .none s.heap) (hQ : ∀ h' T, Fly F g QC dx e .none h' T → Q () { s with heap := h' }) : wpAny M A (leaving env (.ref e)) Q E s := by
  unfold leaving
  exact wpAny_bind (note_first hfr G hF hf x fun h' T x' => fly_flight (s := { s with heap := h' }) (fr := none) x' hg fun h'' x'' => hQ h'' T x'')
/-- a frame left by an exception that was noted here -/
theorem leave_again {Q : Unit → Shared → Prop} (hg : ∀ b ∈ F, (g.get? b).isSome = true) (hf : env.frame = some L) (x : Fly F g QC dx e (rawInt L) s.heap T) (hQ : ∀ h', Fly F g QC dx e .none h' T → Q () { s with heap := h' }) :
    wpAny M A (leaving env (.ref e)) Q E s := by
  unfold leaving
  exact wpAny_bind (note_again hf x (fly_flight (fr := none) x hg fun h'' x'' => hQ h'' x''))
theorem came_back {Q : Value → Shared → Prop} (hg : ∀ b ∈ F, (g.get? b).isSome = true) (hf : env.frame = some L) (x : Fly F g QC dx e fl s.heap T) (hQ : ∀ h', Fly F g QC dx e (rawInt L) h' T → Q (.ref e) { s with heap := h' }) :
    cameBackBy M A env Q (.ref e) s := by
  obtain ⟨vs, sl, he, h1⟩ := x.ex
  unfold cameBackBy
  refine wpAny_bind (wpAny_field he rfl h1 ?_)
  rw [if_neg (show ¬ ((Value.ref T == Value.none) = true) from by simp)]
  first
    | exact fly_flight x hg fun h'' x'' => hQ h'' (by rw [hf] at x''; exact x'')
    | exact wpAny_bind (wpAny_pure (fly_flight x hg fun h'' x'' => hQ h'' (by rw [hf] at x''; exact x'')))
end
end Mine
end
section
open PySem PyProof.Rows
set_option linter.unusedVariables false
set_option linter.unusedSimpArgs false
set_option maxRecDepth 100000
namespace Mine
/-- the class QuicError -/
structure QeF (g : Heap) (mg mb : Str → Option Value) (QC N FI : Addr) (mN : Str → Option Value) (k0 k1 k2 k3 k5 : Option Value) : Prop where
  nm : mg "QuicError" = some (.ref QC)
  ob : g.get? QC = some (excClassObj "QuicError" "QuicError" QC N [.type "Exception"] [.type "Exception", .type "BaseException", .type "object"] true [] [] false none none k0 k1 k2 k3 k5 "Exception.__new__")
  ns : g.Ns N mN
  mi : mN "__init__" = some (.ref FI)
  m0 : mN "__setattr__" = none
  m1 : mN "__getattribute__" = none
  m2 : mN "__getattr__" = none
  m3 : mN "code" = none
  m4 : mN "frame_type" = none
  m5 : mN "text" = none
  oi : MethAt g FI "__init__" "QuicError.__init__" 4 0
  ex : mg "Exception" = none ∧ mb "Exception" = some (.type "Exception")
  st : mg "str" = none ∧ mb "str" = some (.type "str")
namespace F
theorem ex_code : typeLookup (.type "Exception") "code" = pure none := by rw [typeLookup_type, builtinLookup_eq_fast]; kernel_rfl
theorem ex_ft : typeLookup (.type "Exception") "frame_type" = pure none := by rw [typeLookup_type, builtinLookup_eq_fast]; kernel_rfl
theorem ex_text : typeLookup (.type "Exception") "text" = pure none := by rw [typeLookup_type, builtinLookup_eq_fast]; kernel_rfl
theorem ex_meta : typeOf (.type "Exception") = pure (.type "type") := by kernel_rfl
end F
noncomputable abbrev excO (QC dx t0 : Addr) (sl : Array (Option Value)) : Obj := { cls := .ref QC, dict := some dx, data := .fields #[.ref t0, .none, .none, .none, .bool false, .none], slots := sl }
section
variable {prog : Program} {w : World} {A : Around} {E : Value → Shared → Prop} {h : Heap} {g : Array GenState} {d : Drawn} {t : Nat} {os : OsState}
variable {nm q : Str} {C N : Addr} {bs : List Value} {hdct : Bool} {sn : List Str} {sub : List Value} {ab : Bool} {col : Option Bool} {dd : Option Addr} {k0 k1 k2 k3 k5 : Option Value}
/-- Exception.__init__(e, x) -/
theorem exc_init {e t0 : Addr} {x : Value} {Q : Value → Shared → Prop} (hC : h.get? C = some (excClassObj nm q C N bs [.type "Exception", .type "BaseException", .type "object"] hdct sn sub ab col dd k0 k1 k2 k3 k5 "Exception.__new__"))
    (he : h.get? e = some { cls := .ref C, data := .fields #[.ref t0, .none, .none, .none, .bool false, .none] })
    (hq : ∀ h' t1, (∀ b o, b ≠ e → h.get? b = some o → h'.get? b = some o) → h'.get? e = some { cls := .ref C, data := .fields #[.ref t1, .none, .none, .none, .bool false, .none] } → Q .none ⟨h', g, d, t, os⟩) :
    wpAny (model prog w) A (call (.builtin "Exception.__init__") [.ref e, x]) Q E ⟨h, g, d, t, os⟩ := by
  have FX := PySem.F.excBase_Exception
  refine wpAny_call (codeAny_call_builtin FX.init.plain FX.initEntry (wpAny_check_init_sub FX hC he rfl ?_))
  wp_walk
  refine hq _ h.objs.size (fun b o hb hbo => ?_) ?_
  · rw [Heap.get?_update_other _ _ (Ne.symm hb)]
    exact Heap.get?_push_of_some _ hbo
  · rw [Heap.get?_update_self _ (Heap.get?_push_of_some _ he) rfl]
    rfl
end
theorem F.ex_cls : PySem.W.findCls [] (.type "Exception") (.type "type") "__init__" = some (.val (.builtin "Exception.__init__")) := by kernel_rfl
theorem F.ex_stub : Manifest.isStub "Exception" = false := by decide +kernel
theorem meth_exc {prog : Program} {w : World} {A : Around} {E : Value → Shared → Prop} {s : Shared} {L : Addr} {m : Str → Option Value} {pl : Sem Bool} {Q : Value × List Value → Shared → Prop} (hm : s.heap.Ns L m)
    (h : Q (.builtin "Exception.__init__", []) { s with toks := s.toks + 1 }) : wpAny (model prog w) A (getMethod (.type "Exception") "__init__" pl) Q E s :=
  PySem.W.method_type (K := []) (h₀ := e0) (fr_e0 hm) (fun a o z => by cases z) F.ex_meta F.ex_stub F.ex_cls rfl h
end Mine
end
section
open PySem PyProof.Rows
open Builtin Builtin.ObjectAttr
set_option linter.unusedVariables false
set_option linter.unusedSimpArgs false
set_option maxRecDepth 100000
namespace Mine
section
variable {prog : Program} {w : World} {A : Around} {E : Value → Shared → Prop} {h : Heap} {g : Array GenState} {d : Drawn} {t : Nat} {os : OsState}
variable {nm q : Str} {C N x : Addr} {bs bm : List Value} {sn : List Str} {sub : List Value} {ab : Bool} {col : Option Bool} {dd : Option Addr} {k0 k1 k2 k3 k5 : Option Value} {B newId sa owner : String}
  {mN : Str → Option Value} {name : Str} {v : Value}
/-- the first name stored on an exception: its dict is made -/
theorem store_new_entry {vs : Array Value} {sl : Array (Option Value)} {tk : Tok} {Q : Fin → Shared → Prop} (SF : StoreFacts B bm sa owner)
    (hC : h.get? C = some (excClassObj nm q C N bs bm true sn sub ab col dd k0 k1 k2 k3 k5 newId)) (hn : h.Ns N mN) (hna : mN name = none) (hB : typeLookup (.type B) name = pure none)
    (hx : h.get? x = some { cls := .ref C, data := .fields vs, slots := sl })
    (hq : ∀ h' tk', h'.get? x = some { cls := .ref C, dict := some h.objs.size, data := .fields vs, slots := sl } → h'.Ns1 h.objs.size (fun y => if y = name then some v else none) →
      (∀ b o, b ≠ x → h.get? b = some o → h'.get? b = some o) → Q (.done (.ret .none)) ⟨h', g, d, tk', os⟩) :
    wpAny (model prog w) A (Builtin.«object.__setattr__» ⟨[.ref x, .str name tk, v], []⟩) Q E ⟨h, g, d, t, os⟩ := by
  obtain ⟨o, hx', ho⟩ : ∃ o : Obj, h.get? x = some o ∧ o = { cls := .ref C, data := .fields vs, slots := sl } := ⟨_, hx, rfl⟩
  have hc : o.cls = .ref C := by rw [ho]
  have hdn : o.dict = none := by rw [ho]
  have hpass := SF.passes (.ref x)
  unfold Builtin.«object.__setattr__»
  repeat (first | rw [refuse_eq] | (rw [refuseLoop_ref, hpass]) | (with_reducible refine wpAny_loadPart_at hx' ?_; rw [hc]) | with_reducible refine wpAny_mroOf_exc hC ?_ | (with_reducible refine wpAny_typeLookup_exc hC hn SF.mro hB ?_; rw [hna]) | wp_step)
  have hxs : x ≠ h.objs.size := Nat.ne_of_lt (Heap.lt_size hx)
  have hx₁ : (h.push { cls := .type "dict", data := .dict #[] }).get? x = some { cls := .ref C, data := .fields vs, slots := sl } := Heap.get?_push_of_some _ hx
  have hgd : ((h.push { cls := .type "dict", data := .dict #[] }).update x fun o => { o with dict := some h.objs.size }).get? h.objs.size = some { cls := .type "dict", data := .dict #[] } :=
    (Heap.get?_update_ne _ _ _ _ hxs.symm).trans (Heap.get?_push_at rfl rfl)
  have hnd : ((h.push { cls := .type "dict", data := .dict #[] }).update x fun o => { o with dict := some h.objs.size }).Ns h.objs.size (fun _ => none) := ⟨_, #[], _, hgd, rfl, fun e he => absurd he (by simp), fun _ => rfl⟩
  have hxu : ((h.push { cls := .type "dict", data := .dict #[] }).update x fun o => { o with dict := some h.objs.size }).get? x = some { cls := .ref C, dict := some h.objs.size, data := .fields vs, slots := sl } := Heap.get?_update_self _ hx₁ rfl
  have hold : ∀ b o, b ≠ x → h.get? b = some o → ((h.push { cls := .type "dict", data := .dict #[] }).update x fun o => { o with dict := some h.objs.size }).get? b = some o := fun b o ne e =>
    (Heap.get?_update_ne _ _ _ _ ne).trans (Heap.get?_push_of_some _ e)
  rw [hdn, if_neg (by simp [typeHasDict])]
  subst ho
  dsimp only
  refine wpAny_bind (wpAny_alloc' (wpAny_bind (wpAny_update' hx₁ (wpAny_pure ?_))))
  show wpAny _ _ (storeInDict h.objs.size (.str name tk) name v) _ _ _
  unfold storeInDict newKeyGuard
  refine wpAny_bind (wpAny_pure (wpAny_bind (wpAny_nsSet1 (Heap.Ns1.of_empty hnd) fun h' hn' hs => ?_)))
  obtain ⟨oD, esD, epD, hoD, hdD, hcD⟩ := hn'.count (Within.cons name v Within.nil)
  refine wpAny_bind (wpAny_lookBehind hoD (by rw [hdD]; exact pastItsLine_dict (Nat.le_trans hcD (by rw [List.length_cons, List.length_nil, sizeLine_eq]; omega))) ?_)
  exact wpAny_pure (hq h' _ ((hs.2 x hxs).trans hxu) hn' fun b o ne e => (hs.2 b (Nat.ne_of_lt (Heap.lt_size e))).trans (hold b o ne e))
theorem store_new {vs : Array Value} {sl : Array (Option Value)} {Q : Unit → Shared → Prop} (SF : StoreFacts B bm sa owner)
    (hC : h.get? C = some (excClassObj nm q C N bs bm true sn sub ab col dd k0 k1 k2 k3 k5 newId)) (hn : h.Ns N mN) (hns : mN "__setattr__" = none) (hna : mN name = none) (hB : typeLookup (.type B) name = pure none)
    (hx : h.get? x = some { cls := .ref C, data := .fields vs, slots := sl })
    (hq : ∀ h' tk', h'.get? x = some { cls := .ref C, dict := some h.objs.size, data := .fields vs, slots := sl } → h'.Ns1 h.objs.size (fun y => if y = name then some v else none) →
      (∀ b o, b ≠ x → h.get? b = some o → h'.get? b = some o) → Q () ⟨h', g, d, tk', os⟩) :
    wpAny (model prog w) A (setAttr (.ref x) name v) Q E ⟨h, g, d, t, os⟩ := by
  obtain ⟨o, hx', ho⟩ : ∃ o : Obj, h.get? x = some o ∧ o = { cls := .ref C, data := .fields vs, slots := sl } := ⟨_, hx, rfl⟩
  have hc : o.cls = .ref C := by rw [ho]
  have f3 := SF.slot.bind (.ref x)
  unfold setAttr callSpecial? specialOf
  repeat (any_goals (first | assumption | (with_reducible refine wpAny_loadPart_at hx' ?_; rw [hc]) | (with_reducible refine wpAny_typeLookup_exc hC hn SF.mro SF.slot.lookup ?_; rw [hns]) | wp_step))
  refine codeAny_call_builtin SF.slot.plain SF.entry (wpAny_check_sa SF hC hx' hc (store_new_entry SF hC hn hna hB hx fun h' tk' h1 h2 h3 => ?_))
  repeat (any_goals (first | assumption | wp_step))
  exact hq h' tk' h1 h2 h3
end
end Mine
end
section
open PySem PyProof.Rows
set_option linter.unusedVariables false
set_option linter.unusedSimpArgs false
set_option maxRecDepth 100000
namespace Mine
section
variable {σ : Type} {C : Cx σ} {QC N FI : Addr} {mN : Str → Option Value} {k0 k1 k2 k3 k5 : Option Value} {s : Shared}
theorem env_name {M : Model} {A : Around} {E : Value → Shared → Prop} {fd : FuncData} {L a : Addr} {m : Str → Option Value} {x : Str} {pos : Pos} {v : Value} {Q : Value → Shared → Prop} (hk : fd.scope.kind = .function) (hm : s.heap.Ns L m) (hv : m x = some v) (hx : (callEnvC fd L a).kindOf x = some .local) (h : Q v s) (hd : (x == ("__debug__" : Str)) = false := by decide) :
    wpAny M A (eval (.Name x pos) (callEnvC fd L a)) Q E s := wpAny_Name (wpAny_loadName_local (env := callEnvC fd L a) hk hx hm hv h) hd
theorem env_built {M : Model} {A : Around} {E : Value → Shared → Prop} {fd : FuncData} {L a : Addr} {mg mb : Str → Option Value} {x : Str} {pos : Pos} {v : Value} {Q : Value → Shared → Prop} (hk : fd.scope.kind = .function) (hx : (callEnvC fd L a).kindOf x = some .globalImplicit) (hg : s.heap.Ns (callEnvC fd L a).globals mg) (hb : s.heap.Ns (callEnvC fd L a).builtins mb)
    (hn : mg x = none) (hv : mb x = some v) (h : Q v s) (hd : (x == ("__debug__" : Str)) = false := by decide) : wpAny M A (eval (.Name x pos) (callEnvC fd L a)) Q E s :=
  Calls.Name_function_global (env := callEnvC fd L a) hk hx (Calls.loadGlobal_builtin hg hn hb hv h) hd
/-- QuicError(code, frame_type, text) -/
theorem quic_make {ft : Int} {t1 t2 t3 : Tok} {tx : Str} {Q E : Value → Shared → Prop} (ok : C.Ok) (hk : ∀ b o, C.g₀.get? b = some o → s.heap.get? b = some o) (W : Wd C) (hl : 2 ≤ C.lv) (QE : QeF C.g₀ C.mg C.mb QC N FI mN k0 k1 k2 k3 k5) (hlen : tx.length ≤ 1000)
    (q : ∀ h' tk e dx m t0 sl, (∀ b o, s.heap.get? b = some o → h'.get? b = some o) → s.heap.get? e = none → h'.get? e = some (excO QC dx t0 sl) → dx ≠ e → s.heap.get? dx = none → h'.Ns dx m → m "code" = some (.int 7 t1) → m "frame_type" = some (.int ft t2) → Q (.ref e) { s with heap := h', toks := tk }) :
    wpAny (model C.prog C.w) C.A (call (.ref QC) [.int 7 t1, .int ft t2, .str tx t3]) Q E s := by
  obtain ⟨hp, g, d, t, os⟩ := s
  obtain ⟨md, cd, hF, hcd⟩ := QE.oi
  have hroom := ok.room
  refine wpAny_call_exc_init PySem.F.excBase_Exception (hk _ _ QE.ob) (QE.ns.keeps hk) QE.mi (hk _ _ hF) rfl (fun h1 e ME => ?_) (by show (3 : Nat) ≤ sizeLine; rw [sizeLine_eq]; omega)
  obtain ⟨t0, he, ht, hT⟩ := ME.there
  have hk1 : ∀ b o, C.g₀.get? b = some o → h1.get? b = some o := fun b o z => ME.keeps _ _ (hk b o z)
  have hen : hp.get? e = none := ME.new
  refine wpAny_call (codeAny_call_cells (s := ⟨h1, g, d, t, os⟩) (fd := mfd "__init__" "QuicError.__init__" 4 0 md cd) (binds := [("self", .ref e), ("code", .int 7 t1), ("frame_type", .int ft t2), ("text", .str tx t3)]) ?_ (hk1 _ _ hF) rfl (W.nl.keeps hk1) (hcd.keeps hk1) rfl rfl rfl (fun x hx => ?_) (fun s₁ XC => ?_) rfl rfl rfl)
  · show C.A.depth + 1 < recursionLimit
    unfold Room at hroom; omega
  · simp only [List.mem_cons, List.not_mem_nil, or_false] at hx
    left
    rcases hx with rfl | rfl | rfl | rfl <;> rfl
  · obtain ⟨h2, tk, rfl, _⟩ := XC.done
    have x := XC.toInCall
    have keep2 : ∀ b o, h1.get? b = some o → h2.get? b = some o := x.keep
    have hL : h1.get? h1.objs.size = none := size_none h1
    have hm := x.ns
    have hkg : ∀ b o, C.g₀.get? b = some o → h2.get? b = some o := fun b o z => keep2 _ _ (hk1 b o z)
    have he2 := keep2 _ _ he
    have hG : h2.Ns mainGlobals C.mg := ok.g.keeps hkg
    have hBn : h2.Ns builtinsNs C.mb := ok.b.keeps hkg
    refine wpAny_execs_cons (wpAny_Expr_any ?_ rfl rfl)
    refine wpAny_bind (env_built rfl rfl hG hBn QE.ex.1 QE.ex.2 ?_)
    refine wpAny_bind (wpAny_standAt (wpAny_bind (wpAny_holding (meth_exc hm ?_))))
    dsimp only
    refine Calls.callWith_builtin rfl (evalArgs_ns rfl ?_)
    rw [starEach_cons (by rfl), starEach_cons (by rfl)]
    refine Calls.spliced_cons (env_name rfl hm rfl rfl (Calls.spliced_cons ?_))
    refine wpAny_BinOp (wpAny_BinOp (wpAny_Call_NameR (env_built rfl rfl hG hBn QE.st.1 QE.st.2 (PyProof.Rows.callWith_type rfl (evalArgs_ns rfl ?_)))))
    rw [starEach_cons (by rfl)]
    refine Calls.spliced_cons (env_name rfl hm rfl rfl (Calls.spliced_nil (PySem.P.str_of_int (by decide) (Calls.Constant_str (PyProof.Rows.add_str (fun t' tk' => ?_) ?_)))))
    rotate_left
    · show (Str.ofString (toString (7 : Int))).length + (Str.ofString ": ").length ≤ sizeLine
      rw [sizeLine_eq]; decide
    refine env_name rfl hm rfl rfl (PyProof.Rows.add_str (fun t'' tk'' => Calls.spliced_nil ?_) ?_)
    rotate_left
    · rw [PySem.Str.length_append]
      have e1 : (Str.ofString (toString (7 : Int))).length = 1 := by decide
      have e2 : (Str.ofString ": ").length = 2 := by decide
      have e3 : ((toString (7 : Int) : String) : Str).length = 1 := e1
      rw [sizeLine_eq]
      omega
    refine exc_init (h := h2) (hkg _ _ QE.ob) he2 fun h3 t1' keep3 he3 => ?_
    have neL : e ≠ h1.objs.size := fun z => by rw [z, hL] at he; cases he
    have neQ : e ≠ QC := fun z => by rw [z, hk _ _ QE.ob] at hen; cases hen
    have hm3 : h3.Ns h1.objs.size _ := hm.at' fun o z => keep3 _ o (Ne.symm neL) z
    have hk3 : ∀ b o, hp.get? b = some o → h3.get? b = some o := fun b o z => keep3 b o (fun y => by rw [y, hen] at z; cases z) (keep2 _ _ (ME.keeps _ _ z))
    have hg3 : ∀ b o, C.g₀.get? b = some o → h3.get? b = some o := fun b o z => hk3 b o (hk b o z)
    refine wpAny_execs_cons (plainObj_wpAny_Assign_Attribute (env_name rfl hm3 rfl rfl (env_name rfl hm3 rfl rfl ?_)))
    refine store_new (h := h3) PySem.F.store_Exception (hg3 _ _ QE.ob) (QE.ns.keeps hg3) QE.m0 QE.m3 F.ex_code he3 fun h4 tk4 he4 n4 keep4 => ?_
    have neDL : h3.objs.size ≠ h1.objs.size := fun z => by
      obtain ⟨o, _, _, ho, _⟩ := hm3
      exact absurd (Heap.lt_size ho) (by rw [z]; exact Nat.lt_irrefl _)
    have hm4 : h4.Ns h1.objs.size _ := hm3.at' fun o z => keep4 _ o (Ne.symm neL) z
    have I4 : h4.Inst e QC _ := ⟨_, he4, rfl, fun c z => (by cases z), .inr ⟨h3.objs.size, rfl, fun z => (by
      have := Heap.lt_size he3
      rw [← z] at this; exact Nat.lt_irrefl _ this), n4⟩⟩
    have hk4 : ∀ b o, hp.get? b = some o → h4.get? b = some o := fun b o z => keep4 b o (fun y => by rw [y, hen] at z; cases z) (hk3 b o z)
    have neD : ∀ b o, hp.get? b = some o → b ≠ h3.objs.size := fun b o z y => Nat.lt_irrefl _ (y ▸ Heap.lt_size (hk3 b o z))
    refine wpAny_execs_cons (plainObj_wpAny_Assign_Attribute (env_name rfl hm4 rfl rfl (env_name rfl hm4 rfl rfl ?_)))
    refine store_attr (h := h4) PySem.F.store_Exception (hk4 _ _ (hk _ _ QE.ob)) (QE.ns.keeps fun b o z => hk4 b o (hk b o z)) QE.m0 QE.m4 F.ex_ft neQ I4 (fun h5 tk5 I5 keep5 same5 => ?_) (Within.cons _ _ Within.nil) (by rw [sizeLine_eq]; decide)
    have k5 : ∀ b o, b ≠ e → b ≠ h3.objs.size → h4.get? b = some o → h5.get? b = some o := fun b o h1 h2 z => keep5 b o h1 (fun o₀ dx e1 e2 => by
      rw [he4] at e1; cases e1; cases e2; exact h2) z
    obtain ⟨o5, he5, c5, d5, s5, x5⟩ := same5 _ he4
    have hm5 : h5.Ns h1.objs.size _ := hm4.at' fun o z => k5 _ o (Ne.symm neL) (Ne.symm neDL) z
    have hk5 : ∀ b o, hp.get? b = some o → h5.get? b = some o := fun b o z => k5 b o (fun y => by rw [y, hen] at z; cases z) (neD b o z) (hk4 b o z)
    refine wpAny_execs_cons (plainObj_wpAny_Assign_Attribute (env_name rfl hm5 rfl rfl (env_name rfl hm5 rfl rfl ?_)))
    refine store_attr (h := h5) PySem.F.store_Exception (hk5 _ _ (hk _ _ QE.ob)) (QE.ns.keeps fun b o z => hk5 b o (hk b o z)) QE.m0 QE.m5 F.ex_text neQ I5 (fun h6 tk6 I6 keep6 same6 => ?_) (Within.cons _ _ (Within.cons _ _ Within.nil)) (by rw [sizeLine_eq]; decide)
    obtain ⟨o6, he6, c6, d6, s6, x6⟩ := same6 _ he5
    refine wpAny_execs_nil ⟨rfl, ?_⟩
    obtain ⟨o6', he6', cc, _, dd6⟩ := I6
    rw [he6] at he6'
    cases he6'
    have hx6 := x6 _ (x5 _ rfl)
    rcases dd6 with ⟨z, _⟩ | ⟨dx, z1, z2, z3⟩
    · rw [hx6] at z; cases z
    · have : dx = h3.objs.size := by rw [hx6] at z1; exact (Option.some.inj z1).symm
      have dn : hp.get? dx = none := by
        cases z : hp.get? dx with
        | none => rfl
        | some o => exact absurd this (neD dx o z)
      refine q h6 tk6 e dx _ t1' o6.slots (fun b o z => ?_) hen ?_ z2 dn z3.ns ?_ ?_
      · exact keep6 b o (fun y => by rw [y] at z; rw [show hp.get? e = some o from z] at hen; cases hen) (fun o₀ dx' e1 e2 => by
          rw [he5] at e1; cases e1
          rw [x5 _ rfl] at e2; cases e2
          exact neD b o z) (hk5 b o z)
      · rw [he6]
        obtain ⟨a1, a2, a3, a4⟩ := o6
        simp only at c6 d6 hx6 z1
        rw [c5] at c6
        rw [d5] at d6
        subst c6 d6
        rw [z1]
      · rfl
      · rfl
end
end Mine
end
section
open PySem PyProof.Rows
set_option linter.unusedVariables false
set_option linter.unusedSimpArgs false
set_option maxRecDepth 100000
namespace Mine
section
variable {M : Model} {A : Around} {E : Value → Shared → Prop} {env : Env} {s : Shared}
variable {nm q : Str} {C N : Addr} {bs bm : List Value} {hdct : Bool} {sn : List Str} {sub : List Value} {ab : Bool} {col : Option Bool} {dd : Option Addr} {k0 k1 k2 k3 k5 : Option Value} {newId : String}
theorem raise_made {x : Sem Value} {Q : Flow → Shared → Prop} (hbase : bm.contains (.type "BaseException") = true) (hh : A.handled = none)
    (h : wpAny M A x (fun v s₁ => ∃ e dx t0 sl, v = .ref e ∧ s₁.heap.get? C = some (excClassObj nm q C N bs bm hdct sn sub ab col dd k0 k1 k2 k3 k5 newId) ∧ s₁.heap.get? e = some (excO C dx t0 sl) ∧ E (.ref e) s₁) E s) :
    wpAny M A (raiseStmt env (some x) none) Q E s := by
  have hcB : (Value.ref C :: bm).contains (.type "BaseException") = true := by rw [List.contains_cons, hbase, Bool.or_true]
  unfold raiseStmt
  refine wpAny_bind (wpAny_mono h (fun v s₁ h₁ => ?_) fun _ _ x => x)
  obtain ⟨e, dx, t0, sl, rfl, hC, he, hE⟩ := h₁
  obtain ⟨hp, g, d, tk, os⟩ := s₁
  repeat (first | with_reducible refine wpAny_loadPart_at he ?_ | with_reducible refine wpAny_loadPart_at hC ?_ | (with_reducible refine wpAny_isSubtype_exc hC ?_; rw [hcB]) | wp_step)
  exact wpAny_raiseNew_none hh hE
theorem callWith_exc {pos : Pos} {args : List (Bool × Sem Value)} {Q : Value → Shared → Prop} (hn : args.any (·.1) = false)
    (h : wpAny M A (spliced args) (fun vs s₁ => s₁.heap.get? C = some (excClassObj nm q C N bs bm hdct sn sub ab col dd k0 k1 k2 k3 k5 newId) ∧ wpAny M A (call (.ref C) vs []) Q E s₁) E s) : wpAny M A (callWith pos (.ref C) [] args []) Q E s := by
  unfold callWith
  refine wpAny_bind (wpAny_holding (evalArgs_ns hn (wpAny_mono h (fun vs s₁ h₁ => wpAny_bind (wpAny_standAt ?_)) fun _ _ x => x)))
  obtain ⟨hC, hc⟩ := h₁
  simp only [hn]
  refine wpAny_bind ?_
  obtain ⟨hp, g, d, tk, os⟩ := s₁
  refine wpAny_keeperOf_exc hC ?_
  exact wpAny_bind (wpAny_mono hc (fun r s₂ hr => wpAny_bind (wpAny_holding (wpAny_point (wpAny_pure hr)))) fun _ _ x => x)
end
/-- a fresh QuicError(7, 2, ..), raised in a frame -/
structure Rz {σ : Type} (C : Cx σ) (B : Heap) (mu : List Addr) (K₀ : Kn) (st : σ) (QC dx e : Addr) (h : Heap) : Prop where
  st : ∃ g fa ρ fo K, St C B mu K₀ fa ρ fo K st g ∧ (∀ b o, g.get? b = some o → h.get? b = some o) ∧ g.get? e = none ∧ g.get? dx = none
  ex : ∃ t0 sl, h.get? e = some (excO QC dx t0 sl)
  ne : dx ≠ e
  ns : ∃ m t1 t2, h.Ns dx m ∧ m "code" = some (.int 7 t1) ∧ m "frame_type" = some (.int 2 t2)
section
variable {σ : Type}
noncomputable def TsR (C : Cx σ) (QC : Addr) (ρ : Ro) (fo : Option (List Dt)) (st : σ) (t : Sem Flow) (st' : σ) : Prop :=
  ∀ (B : Heap) (mu : List Addr) (K₀ : Kn) (fa : Addr) (K : Kn) (s : Shared) (Q : Flow → Shared → Prop) (E : Value → Shared → Prop), St C B mu K₀ fa ρ fo K st s.heap →
    (∀ h' tk e dx, Rz C B mu K₀ st' QC dx e h' → E (.ref e) { s with heap := h', toks := tk }) → wpAny (model C.prog C.w) C.A t Q E s
variable {C : Cx σ} {QC N FI : Addr} {mN : Str → Option Value} {k0 k1 k2 k3 k5 : Option Value} {ρ ρ' : Ro} {fo : Option (List Dt)} {st st1 st2 : σ} {P : Post σ}
theorem TsR.raise (W : Wd C) (hl : 2 ≤ C.lv) (QE : QeF C.g₀ C.mg C.mb QC N FI mN k0 k1 k2 k3 k5) {tx : Str} {np p1 p2 p3 cpos pos : Pos} {k : Nat} (hlen : tx.length ≤ 1000)
    (hq : C.env.kindOf "QuicError" = some .globalImplicit := by rfl) (h1 : C.env.kindOf "FRAME_ENCODING_ERROR" = some .globalImplicit := by rfl) (h2 : C.env.kindOf "ACK_TYPE" = some .globalImplicit := by rfl) :
    TsR C QC ρ fo st (exec (.Raise (some (.Call (.Name "QuicError" np) [.Name "FRAME_ENCODING_ERROR" p1, .Name "ACK_TYPE" p2, .Constant (.str tx) k p3] [] cpos)) none pos) C.env) st := fun B mu K₀ fa K s Q E S q => by
  obtain ⟨v1, m1, r1⟩ := W.c2
  obtain ⟨v2, m2, r2⟩ := W.c3
  rw [arm_exec_Raise]
  refine wpAny_bind (wpAny_standAt (raise_made (nm := "QuicError") (q := "QuicError") (C := QC) (N := N) (bs := [.type "Exception"]) (bm := [.type "Exception", .type "BaseException", .type "object"]) (hdct := true) (sn := []) (sub := []) (ab := false) (col := none) (dd := none) (k0 := k0) (k1 := k1) (k2 := k2) (k3 := k3) (k5 := k5) (newId := "Exception.__new__") (by decide) S.ok.hh (wpAny_bind (wpAny_Call_NameR (S.globName hq QE.nm (callWith_exc (nm := "QuicError") (q := "QuicError") (C := QC) (N := N) (bs := [.type "Exception"]) (bm := [.type "Exception", .type "BaseException", .type "object"]) (hdct := true) (sn := []) (sub := []) (ab := false) (col := none) (dd := none) (k0 := k0) (k1 := k1) (k2 := k2) (k3 := k3) (k5 := k5) (newId := "Exception.__new__") (by rw [starEach_cons (by rfl), starEach_cons (by rfl), starEach_cons (by rfl)]; rfl) ?_) (by decide))))))
  rw [starEach_cons (by rfl), starEach_cons (by rfl), starEach_cons (by rfl)]
  refine Calls.spliced_cons (Ev.glob (st := st) (fo := fo) m1 r1 h1 (by decide) B mu K₀ fa K s _ _ S fun u1 g1 tk1 K1 le1 S1 q1 => ?_)
  refine Calls.spliced_cons (Ev.glob (st := st) (fo := fo) m2 r2 h2 (by decide) B mu K₀ fa K1 { s with heap := g1, toks := tk1 } _ _ S1 fun u2 g2 tk2 K2 le2 S2 q2 => ?_)
  obtain ⟨t1, rfl⟩ := q1.int_inv
  obtain ⟨t2, rfl⟩ := q2.int_inv
  refine Calls.spliced_cons (Calls.Constant_str (k := k) (pos := p3) (Calls.spliced_nil ⟨S2.gk _ _ QE.ob, ?_⟩))
  refine quic_make (C := C) (s := ⟨g2, s.gens, s.drawn, tk2 + 1, s.os⟩) S2.ok S2.gk W hl QE hlen fun h' tk e dx m t0 sl keep en he ne dn hn mc mf => ?_
  refine wpAny_bind (wpAny_standAt (wpAny_pure ⟨e, dx, t0, sl, rfl, keep _ _ (S2.gk _ _ QE.ob), he, ?_⟩))
  exact q h' tk e dx ⟨⟨g2, fa, ρ, fo, K2, S2, keep, en, dn⟩, ⟨t0, sl, he⟩, ne, m, _, _, hn, mc, mf⟩
theorem TsR.head {s : Stmt} {rest : List Stmt} (h : TsR C QC ρ fo st (exec s C.env) st1) : TsR C QC ρ fo st (execs (s :: rest) C.env) st1 := fun B mu K₀ fa K s Q E S q =>
  wpAny_execs_cons (h B mu K₀ fa K s _ E S q)
theorem TsR.ite_t {t : Expr} {b o : List Stmt} {pos : Pos} (ht : Tst C ρ fo st t true st1) (hb : TsR C QC ρ fo st1 (execs b C.env) st2) : TsR C QC ρ fo st (exec (.If t b o pos) C.env) st2 := fun B mu K₀ fa K s Q E S q =>
  wpAny_If (ht B mu K₀ fa K s _ E S fun h1 tk1 K1 k1 S1 => by
    rw [if_pos rfl]
    exact hb B mu K₀ fa K1 _ Q E S1 q)
/-- a plain statement, then a raise; the base laid anew is not -/
theorem TsR.next {s : Stmt} {rest : List Stmt} (h : Ex C ρ fo st s (fun fl ρ' fo' st' => fl = .next ∧ TsR C QC ρ' fo' st' (execs rest C.env) st1)) : TsR C QC ρ fo st (execs (s :: rest) C.env) st1 := fun B mu K₀ fa K s Q E S q =>
  wpAny_execs_cons (h B mu K₀ fa K s _ E S fun f h1 tk1 K1 fa1 fl ρ1 fo1 st1' p k1 S1 r1 => by
    obtain ⟨rfl, hr⟩ := p
    cases f with
    | next => exact hr B mu K₀ fa1 K1 _ Q E S1 q
    | _ => cases r1)
end
end Mine
end
section
open PySem PyProof.Rows
set_option linter.unusedVariables false
set_option linter.unusedSimpArgs false
set_option maxRecDepth 100000
namespace Mine
noncomputable abbrev frm (l : List Env) : List Addr := l.filterMap (·.frame)
/-- the frames that stand around -/
structure Stk {σ : Type} (C : Cx σ) (B : Heap) (mu : List Addr) (outer : List Env) : Prop where
  fr : C.A.frames = some (C.env :: outer)
  fl : C.env.frame = some C.env.locals
  ff : B.FunFrames e0 outer
  off : ∀ b ∈ frm outer, b ∉ mu ∧ b ∉ C.fp
/-- an exception on its way in a frame: fresh, or noted here -/
noncomputable def Wr {σ : Type} (C : Cx σ) (B : Heap) (mu : List Addr) (K₀ : Kn) (st : σ) (outer : List Env) (QC dx e : Addr) (hr h : Heap) : Prop :=
  Rz C B mu K₀ st QC dx e hr ∧ (h = hr ∨ ∃ T, Fly (frm (C.env :: outer)) hr QC dx e (rawInt C.env.locals) h T)
section
variable {σ : Type} {C : Cx σ} {QC : Addr} {ρ ρ' : Ro} {fo : Option (List Dt)} {st st1 st2 : σ} {B : Heap} {mu : List Addr} {K₀ : Kn} {h : Heap} {dx e : Addr} {outer : List Env}
theorem ff_keeps {g h : Heap} {l : List Env} (G : g.FunFrames e0 l) (hk : ∀ b ∈ frm l, ∀ o, g.get? b = some o → h.get? b = some o) : h.FunFrames e0 l := by
  induction l with
  | nil => trivial
  | cons env rest ih =>
    obtain ⟨hkd, ⟨L, o, hf, hn, ho, hd⟩, hr⟩ := G
    exact ⟨hkd, ⟨L, o, hf, hn, hk L (by show L ∈ List.filterMap _ _; rw [List.filterMap_cons, hf]; exact List.mem_cons_self) o ho, hd⟩, ih hr fun b hb => hk b (by show b ∈ List.filterMap _ _; rw [List.filterMap_cons, hf]; exact List.mem_cons_of_mem _ hb)⟩
theorem ff_some {g : Heap} {l : List Env} (G : g.FunFrames e0 l) : ∀ b ∈ frm l, (g.get? b).isSome = true := fun b hb => by
  obtain ⟨_, o, ho, _⟩ := G.mem hb
  rw [ho]; rfl
theorem frm_cons (K : Stk C B mu outer) : frm (C.env :: outer) = C.env.locals :: frm outer := by
  show List.filterMap _ _ = _
  rw [List.filterMap_cons, K.fl]
theorem Rz.stk (x : Rz C B mu K₀ st QC dx e h) (K : Stk C B mu outer) : h.FunFrames e0 (C.env :: outer) ∧ e ∉ frm (C.env :: outer) ∧ dx ∉ frm (C.env :: outer) := by
  obtain ⟨g, fa, ρ, fo, K', S, keep, en, dn⟩ := x.st
  obtain ⟨m, hm, _⟩ := S.fr
  obtain ⟨o, es, ep, ho, hd, _⟩ := hm
  have G : g.FunFrames e0 (C.env :: outer) := by
    refine ⟨by rw [S.ok.kind]; decide, ⟨C.env.locals, o, K.fl, e0_none _, ho, fun vs z => by rw [hd] at z; cases z⟩, ?_⟩
    exact ff_keeps K.ff fun b hb o z => S.base b o z (K.off b hb).1 (K.off b hb).2
  refine ⟨ff_keeps G fun b _ o z => keep b o z, fun z => ?_, fun z => ?_⟩
  · have := ff_some G e z
    rw [en] at this; cases this
  · have := ff_some G dx z
    rw [dn] at this; cases this
theorem Rz.fly0 (x : Rz C B mu K₀ st QC dx e h) {F : List Addr} (hF : e ∉ F) : Fly0 F h QC dx e .none h := by
  obtain ⟨t0, sl, he⟩ := x.ex
  exact { keep := fun _ _ _ _ z => z, slots := fun b _ o z => ⟨o.slots, z⟩, ge := by rw [he]; rfl, eF := hF, ex := ⟨_, sl, he, rfl⟩ }
theorem Rz.back {fa : Addr} {K K' : Kn} {h2 : Heap} (S : St C B mu K₀ fa ρ fo K st h2) (x : Rz C h2 (ownL C fa fo) K st1 QC dx e h) : Rz C B mu K₀ st1 QC dx e h := by
  obtain ⟨g, fa', ρ', fo', K', S', r⟩ := x.st
  exact ⟨⟨g, fa', ρ', fo', K', S.back S', r⟩, x.ex, x.ne, x.ns⟩
noncomputable def TsW (C : Cx σ) (QC : Addr) (outer : List Env) (ρ : Ro) (fo : Option (List Dt)) (st : σ) (t : Sem Flow) (st' : σ) : Prop :=
  ∀ (B : Heap) (mu : List Addr) (K₀ : Kn) (fa : Addr) (K : Kn) (s : Shared) (Q : Flow → Shared → Prop) (E : Value → Shared → Prop), St C B mu K₀ fa ρ fo K st s.heap → Stk C B mu outer →
    (∀ h' tk e dx hr, Wr C B mu K₀ st' outer QC dx e hr h' → E (.ref e) { s with heap := h', toks := tk }) → wpAny (model C.prog C.w) C.A t Q E s
theorem TsR.w {t : Sem Flow} (h : TsR C QC ρ fo st t st1) : TsW C QC outer ρ fo st t st1 := fun B mu K₀ fa K s Q E S _ q => h B mu K₀ fa K s Q E S fun h' tk e dx r => q h' tk e dx h' ⟨r, Or.inl rfl⟩
theorem TsW.head {s : Stmt} {rest : List Stmt} (h : TsW C QC outer ρ fo st (exec s C.env) st1) : TsW C QC outer ρ fo st (execs (s :: rest) C.env) st1 := fun B mu K₀ fa K s Q E S k q =>
  wpAny_execs_cons (h B mu K₀ fa K s _ E S k q)
theorem TsW.next {s : Stmt} {rest : List Stmt} (h : Ex C ρ fo st s (fun fl ρ' fo' st' => fl = .next ∧ TsW C QC outer ρ' fo' st' (execs rest C.env) st1)) : TsW C QC outer ρ fo st (execs (s :: rest) C.env) st1 := fun B mu K₀ fa K s Q E S k q =>
  wpAny_execs_cons (h B mu K₀ fa K s _ E S fun f h1 tk1 K1 fa1 fl ρ1 fo1 st1' p k1 S1 r1 => by
    obtain ⟨rfl, hr⟩ := p
    cases f with
    | next => exact hr B mu K₀ fa1 K1 _ Q E S1 k q
    | _ => cases r1)
theorem TsW.for {ds : List Dt} {target iter : Expr} {body : List Stmt} {pos : Pos} (hit : It C ρ fo st iter ds st1) (J : List Dt → Ro → Option (List Dt) → σ → Prop) (h0 : J [] ρ fo st1)
    (turn : ∀ pre d post ρ fo st, ds = pre ++ d :: post → J pre ρ fo st → ∃ ρ₁, Bind C fo target d ρ ρ₁ ∧ (Exs C ρ₁ fo st body (fun fl ρ' fo' st' => fl = .next ∧ J (pre ++ [d]) ρ' fo' st') ∨ TsR C QC ρ₁ fo st (execs body C.env) st2))
    (never : ∀ ρ fo st, ¬ J ds ρ fo st) (hs : noSet iter = true := by rfl) : TsW C QC outer ρ fo st (exec (.For target iter body [] pos) C.env) st2 :=
  fun B mu K₀ fa K s Q E S kS q => wpAny_For (hit B mu K₀ fa K s _ E S fun I h1 tk1 K1 fp' PP Stt k1 S1 W w0 w1 w2 w3 w4 w5 => by
    refine codeAny_forLoop_any (FInv C B mu K₀ ds s K1 I fp' Stt J) ?_ (ds.length + 1)
      (.mk 0 h1 tk1 fa ρ fo st1 K1 (Nat.zero_le _) (.refl _) w2.1 S1 w0 w1 (by simpa using h0))
    rintro n s' ⟨i, h', tk, fa', ρ', fo', st', K', hi, kk, kI, S', hst, hfp, hJ⟩
    have If : I ∈ fp' := W.sub I (by simp)
    by_cases hlt : i < ds.length
    · refine W.item i { s with heap := h', toks := tk } _ _ hlt hst fun v h2 tk2 hP hst2 hk2 => ?_
      have S2 := S'.walked hk2 ⟨kI, w2.2⟩ (hfp I If).2 (w4 _ _ hst)
      refine letOwned_plain (s := { s with heap := h2, toks := tk2 }) (w4 _ _ hst2) ?_
      obtain ⟨d, hd, rd⟩ := w3 i v hlt hP
      obtain ⟨es, et⟩ := take_split hd
      have fp2 : ∀ b ∈ fp', (h2.get? b).isSome = true ∧ b ∉ ownL C fa' fo' ++ C.fp := fun b hb => by
        refine ⟨?_, (hfp b hb).2⟩
        by_cases e : b = I
        · obtain ⟨o, _, ho, _⟩ := w4 _ _ hst2
          rw [e, ho]; rfl
        · obtain ⟨o, ho⟩ := Option.isSome_iff_exists.mp (hfp b hb).1
          rw [hk2 b o (by simpa using e) ho]; rfl
      obtain ⟨ρ₁, hb, hbody⟩ := turn _ d _ ρ' fo' st' es hJ
      refine hb.go (s := { s with heap := h2, toks := tk2 }) S2.rebase (rd.mono kk) fun h3 tk3 S3 => ?_
      rcases hbody with hbody | hbody
      · refine hbody h2 (ownL C fa' fo') K' fa' K' { s with heap := h3, toks := tk3 } _ _ S3 fun f h4 tk4 K4 fa4 fl ρ4 fo4 st4 p4 k4 S4 r4 => ?_
        obtain ⟨rfl, p4⟩ := p4
        obtain ⟨g1, g2, g3⟩ := S4.stood (B := B) fp2 kI If
        have S5 := S2.back S4
        cases f with
        | next => exact ⟨ds.length + 1 - (i + 1), by omega, .mk (i + 1) h4 tk4 fa4 ρ4 fo4 st4 K4 hlt (kk.trans k4) g3 S5 (W.frame _ _ _ hst2 g1) g2 (by rw [et]; exact p4)⟩
        | _ => cases r4
      · refine hbody h2 (ownL C fa' fo') K' fa' K' { s with heap := h3, toks := tk3 } _ _ S3 fun h4 tk4 e dx r => ?_
        have r' : Rz C B mu K₀ st2 QC dx e h4 := r.back (K' := K') S2
        obtain ⟨FF, eF, dF⟩ := r'.stk kS
        have hg := ff_some FF
        show wpAny _ _ (noteFrame (.ref e) C.env) _ _ _
        refine note_first (s := { s with heap := h4, toks := tk4 }) kS.fr FF (fun b hb => hb) kS.fl (r'.fly0 eF) fun h5 T x => ?_
        exact came_back (s := { s with heap := h5, toks := tk4 }) hg kS.fl x fun h6 x6 => q h6 tk4 e dx h4 ⟨r', Or.inr ⟨T, x6⟩⟩
    · have hin : i = ds.length := by omega
      subst hin
      rw [List.take_length] at hJ
      exact absurd hJ (never _ _ _))
    (fun x => folded_ok hs _ _)
end
end Mine
end
section
open PySem PyProof.Rows
set_option linter.unusedVariables false
set_option linter.unusedSimpArgs false
set_option maxRecDepth 100000
namespace Mine
noncomputable def rangesBad (lo : Int) : List (Int × Int) → Prop
  | [] => False
  | (g, s) :: r => lo - g - 2 - s < 0 ∨ (0 ≤ lo - g - 2 - s ∧ rangesBad (lo - g - 2 - s) r)
section
variable {σ : Type} {C : Cx σ} {QC N FI : Addr} {mN : Str → Option Value} {k0 k1 k2 k3 k5 : Option Value} {outer : List Env} {st : σ}
theorem ranges_raises (W : Wd C) (hl : 3 ≤ C.lv) (QE : QeF C.g₀ C.mg C.mb QC N FI mN k0 k1 k2 k3 k5) (Lg f : Int) (ps : List (Int × Int)) (hp : Lg < f ∨ (f ≤ Lg ∧ rangesBad (Lg - f) ps)) (hlen : ps.length ≤ 1000) (L a : Addr) (cd : Value) :
    TsW (C.callee "ranges_of" (dS 16) L a cd) QC outer (ro0 (dS 16) [("largest", .int Lg), ("first", .int f), ("pairs", .lst (rng ps))]) none st (execs (dB 16) (C.callee "ranges_of" (dS 16) L a cd).env) st := by
  have W' : Wd (C.callee "ranges_of" (dS 16) L a cd) := W.callee
  have hl' : 2 ≤ (C.callee "ranges_of" (dS 16) L a cd).lv := by show 2 ≤ C.lv - 1; omega
  have QE' : QeF (C.callee "ranges_of" (dS 16) L a cd).g₀ (C.callee "ranges_of" (dS 16) L a cd).mg (C.callee "ranges_of" (dS 16) L a cd).mb QC N FI mN k0 k1 k2 k3 k5 := QE
  rcases hp with hp | ⟨hf, hp⟩
  · exact TsW.head (TsR.w (TsR.ite_t (Tst.cmp (Ev.name rfl) (Ev.name rfl) (gt_t hp)) (TsR.head (TsR.raise W' hl' QE' (Nat.le_of_ble_eq_true rfl)))))
  · refine TsW.next (Ex.ite_f (Tst.cmp (Ev.name rfl) (Ev.name rfl) (gt_f (by omega))) (Exs.nil ⟨rfl, ?_⟩))
    refine TsW.next (Ex.own (Es.cons (Ev.tuple (Es.cons (Ev.bin (Ev.name rfl) (Ev.name rfl) (.subI _ _)) (Es.cons (Ev.name rfl) Es.nil))) Es.nil) (Or.inl rfl) (Nat.le_of_ble_eq_true rfl) rfl ⟨rfl, ?_⟩)
    refine TsW.head (TsW.for (It.list (Ev.name rfl)) (fun pre ρ fo st' => st' = st ∧ (∃ x y z, ρ = ([("largest", some (.int Lg)), ("first", some (.int f)), ("pairs", some (.lst (rng ps))), ("found", none), ("gap", x), ("size", y), ("high", z)] : Ro)) ∧
      ∃ r dn lo hi, rng ps = pre ++ rng r ∧ fo = some (rng dn ++ [pr (lo, hi)]) ∧ rangesBad lo r ∧ dn.length + r.length ≤ 1000) ⟨rfl, ⟨none, none, none, rfl⟩, ps, [], Lg - f, Lg, rfl, rfl, hp, by simpa using hlen⟩ ?_ ?_)
    · rintro pre d post ρ fo st' e ⟨rfl, ⟨x, y, z, rfl⟩, r, dn, lo, hi, e', rfl, hbad, hn⟩
      rw [e'] at e
      have e2 := List.append_cancel_left e
      match r, e2, hbad, hn with
      | (g, s) :: r, e2, hbad, hn =>
        obtain ⟨rfl, _⟩ := List.cons.inj (show pr (g, s) :: rng r = d :: post from e2)
        refine ⟨_, .tup (.cons (Or.inl rfl) (Or.inl (by decide)) rfl (.cons (Or.inl rfl) (Or.inl (by decide)) rfl .nil)), ?_⟩
        rcases hbad with hbad | ⟨h0, hbad⟩
        · right
          refine TsR.next (Ex.assign (Ev.bin (Ev.bin (Ev.item (Ev.ownItem (Ev.neg Ev.cint) (by decide) (by decide) last_item last_get) Ev.cint item0) (Ev.name rfl) (.subI _ _)) Ev.cint (.subI _ _)) (Or.inl rfl) (Or.inl (by decide)) rfl ⟨rfl, ?_⟩)
          exact TsR.head (TsR.ite_t (Tst.cmp (Ev.bin (Ev.name rfl) (Ev.name rfl) (.subI _ _)) Ev.cint (lt_t hbad)) (TsR.head (TsR.raise W' hl' QE' (Nat.le_of_ble_eq_true rfl))))
        · left
          refine Exs.cons (Ex.assign (Ev.bin (Ev.bin (Ev.item (Ev.ownItem (Ev.neg Ev.cint) (by decide) (by decide) last_item last_get) Ev.cint item0) (Ev.name rfl) (.subI _ _)) Ev.cint (.subI _ _)) (Or.inl rfl) (Or.inl (by decide)) rfl ?_)
          refine Exs.cons (Ex.ite_f (Tst.cmp (Ev.bin (Ev.name rfl) (Ev.name rfl) (.subI _ _)) Ev.cint (lt_f (by omega))) (Exs.nil ?_))
          refine Exs.cons (Ex.append (Ev.tuple (Es.cons (Ev.bin (Ev.name rfl) (Ev.name rfl) (.subI _ _)) (Es.cons (Ev.name rfl) Es.nil))) (by simp [rng] at hn ⊢; unfold lim; omega) (Exs.nil ⟨rfl, rfl, ⟨_, _, _, rfl⟩, r, dn ++ [(lo, hi)], lo - g - 2 - s, lo - g - 2, ?_, ?_, hbad, ?_⟩))
          · rw [e']; simp [rng]
          · simp [rng, pr]
          · simp at hn ⊢; omega
    · rintro ρ fo st' ⟨rfl, _, r, dn, lo, hi, e, _, hbad, _⟩
      have : rng r = [] := List.append_right_eq_self.mp e.symm
      have : r = [] := by simpa [rng] using this
      subst this
      exact hbad
/-- what stands where the exception was raised, seen from the caller -/
structure Rsd {σ : Type} (C : Cx σ) (F : List Addr) (h0 : Heap) (st1 : σ) (QC dx e : Addr) (hr : Heap) : Prop where
  keep : ∀ b o, b ∉ C.fp → h0.get? b = some o → hr.get? b = some o
  sg : C.Sg st1 hr
  fps : ∀ b ∈ C.fp, (h0.get? b).isSome = true → (hr.get? b).isSome = true
  en : h0.get? e = none
  eF : e ∉ F
  dF : dx ∉ F
  ne : dx ≠ e
  ns : ∃ m t1 t2, hr.Ns dx m ∧ m "code" = some (.int 7 t1) ∧ m "frame_type" = some (.int 2 t2)
  fp : ∀ b ∈ C.fp, b ∉ F ∧ b ≠ e
  some : ∀ b ∈ F, (hr.get? b).isSome = true
theorem ranges_call (W : Wd C) (hl : 3 ≤ C.lv) (QE : QeF C.g₀ C.mg C.mb QC N FI mN k0 k1 k2 k3 k5) (Lg f : Int) (ps : List (Int × Int)) (hp : Lg < f ∨ (f ≤ Lg ∧ rangesBad (Lg - f) ps)) (hlen : ps.length ≤ 1000) {outer : List Env} (hfr : C.A.frames = some outer) :
    ∃ (a : Addr) (o : Obj) (fd : FuncData), C.mg "ranges_of" = some (.ref a) ∧ C.g₀.get? a = some o ∧ o.data = .func fd ∧
    ∀ (B : Heap) (mu : List Addr) (K₀ : Kn) (fa : Addr) (ρ : Ro) (fo : Option (List Dt)) (K : Kn) (s : Shared) (vs : List Value) (Q E : Value → Shared → Prop), St C B mu K₀ fa ρ fo K st s.heap → Rds C.hv K vs [.int Lg, .int f, .lst (rng ps)] → s.heap.FunFrames e0 outer → (∀ b ∈ frm outer, b ∉ C.fp) →
      (∀ h' tk e dx hr T, Rsd C (s.heap.objs.size :: frm outer) s.heap st QC dx e hr → Fly (s.heap.objs.size :: frm outer) hr QC dx e .none h' T → E (.ref e) { s with heap := h', toks := tk }) → wpAny (model C.prog C.w) C.A (call (.ref a) vs) Q E s := by
  obtain ⟨a, o, pm, cd, doc, h1, h2, h3, h4⟩ := W.fn 16 "ranges_of" rfl (by decide)
  refine ⟨a, o, _, h1, h2, h3, fun B mu K₀ fa ρ fo K s vs Q E S r FF hoff q => ?_⟩
  have hlv : vs.length = 3 := by rw [r.length]; rfl
  have hroom : C.A.depth < recursionLimit := by have := S.ok.room.1; omega
  refine wpAny_call (call_cells (binds := (["largest", "first", "pairs"] : List Str).zip vs) hroom (S.gk _ _ h2) h3 (W.nl.keeps S.gk) (h4.keeps S.gk) (by match vs, hlv with | [a, b, c], _ => rfl) (fun x hx => ?_) (fun h₁ tk F X => ?_))
  · match vs, hlv, hx with
    | [a, b, c], _, hx =>
      simp only [List.zip_cons_cons, List.mem_cons, List.zip_nil_right, List.not_mem_nil, or_false] at hx
      left
      rcases hx with rfl | rfl | rfl <;> rfl
  · have S1 := S.start (n := "ranges_of") (a := a) (cd := cd) (ps := [("largest", .int Lg), ("first", .int f), ("pairs", .lst (rng ps))]) (by omega) rfl r F X
    generalize hLL : s.heap.objs.size = L at S1
    have KS : Stk (C.callee "ranges_of" (dS 16) L a cd) s.heap [] outer := ⟨Around.frames_deeper hfr, rfl, FF, fun b hb => ⟨by simp, hoff b hb⟩⟩
    have eF : frm ((C.callee "ranges_of" (dS 16) L a cd).env :: outer) = L :: frm outer := frm_cons KS
    refine ranges_raises W hl QE Lg f ps hp hlen L a cd s.heap [] K 0 K { s with heap := h₁, toks := tk } _ _ S1 KS fun h' tk' e dx hr ⟨rz, hw⟩ => ?_
    obtain ⟨FG, ne, nd⟩ := rz.stk KS
    have hg := ff_some FG
    have fin : ∀ {h'' : Heap} {T : Addr}, Fly (frm ((C.callee "ranges_of" (dS 16) L a cd).env :: outer)) hr QC dx e .none h'' T → E (.ref e) { s with heap := h'', toks := tk' } := fun {h'' T} x => by
      obtain ⟨g, fa', ρ', fo', K', S', keep, en, dn⟩ := rz.st
      have gs : ∀ b, (s.heap.get? b).isSome = true → (g.get? b).isSome = true := fun b hb => S'.ex b hb
      have fpg : ∀ b ∈ C.fp, (g.get? b).isSome = true := fun b hb => (S'.mt b (List.mem_append.mpr (.inr hb))).2
      have Ln : L ∉ C.fp := S'.L_fp
      have fpn : ∀ b ∈ C.fp, b ∉ frm ((C.callee "ranges_of" (dS 16) L a cd).env :: outer) ∧ b ≠ e := fun b hb => by
        refine ⟨fun z => ?_, fun z => ?_⟩
        · rw [eF] at z
          rcases List.mem_cons.mp z with z | z
          · exact Ln (z ▸ hb)
          · exact hoff b z hb
        · have := fpg b hb
          rw [z, en] at this; cases this
      rw [hLL] at q
      rw [← eF] at q
      refine q h'' tk' e dx hr T ⟨fun b o hb z => keep b o (S'.base b o z (by simp) hb), S'.ok.sgk st g hr (fun b hb o z => keep b o z) S'.sg, fun b hb z => ?_, ?_, ne, nd, rz.ne, rz.ns, fpn, hg⟩ x
      · obtain ⟨o, ho⟩ := Option.isSome_iff_exists.mp (fpg b hb)
        rw [keep b o ho]; rfl
      · cases z : s.heap.get? e with
        | none => rfl
        | some o => have := gs e (by rw [z]; rfl); rw [en] at this; cases this
    rcases hw with rfl | ⟨T, x⟩
    · exact leave_first (s := { s with heap := h', toks := tk' }) KS.fr FG (fun b hb => hb) hg KS.fl (rz.fly0 ne) fun h'' T x => fin x
    · exact leave_again (s := { s with heap := h', toks := tk' }) hg KS.fl x fun h'' x' => fin x'
end
end Mine
end
section
open PySem PyProof.Rows
open Builtin Builtin.ObjectAttr
set_option linter.unusedVariables false
set_option linter.unusedSimpArgs false
set_option maxRecDepth 100000
namespace Mine
section
variable {prog : Program} {w : World} {A : Around} {E : Value → Shared → Prop} {h : Heap} {g : Array GenState} {d : Drawn} {t : Nat} {os : OsState} {a dx : Addr} {o : Obj} {vs : Array Value}
  {nm q : Str} {C N : Addr} {bs : List Value} {sn : List Str} {sub : List Value} {ab : Bool} {col : Option Bool} {dd : Option Addr} {k0 k1 k2 k3 k5 : Option Value} {newId : String} {mN m : Str → Option Value} {name : Str} {v : Value}
theorem exc_check {M : Model} {nameV : Value} {Q : Unit → Shared → Prop} (hC : h.get? C = some (excClassObj nm q C N bs [.type "Exception", .type "BaseException", .type "object"] true sn sub ab col dd k0 k1 k2 k3 k5 newId))
    (hx : h.get? a = some o) (hc : o.cls = .ref C) (hq : Q () ⟨h, g, d, t, os⟩) : wpAny M A (checkBuiltinCall "BaseException.__getattribute__" ⟨[.ref a, nameV], []⟩) Q E ⟨h, g, d, t, os⟩ := by
  have hk : builtinKind "BaseException.__getattribute__" = some .slot := by decide +kernel
  have hsplit : splitId "BaseException.__getattribute__" = some ("BaseException", "__getattribute__") := by decide +kernel
  have hcB : (Value.ref C :: [.type "Exception", .type "BaseException", .type "object"]).contains (.type "BaseException") = true := by rw [List.contains_cons]; rfl
  have ha := PySem.F.args_bexc_ga (.ref a) nameV
  simp only [checkBuiltinCall, hk, hsplit]
  refine wpAny_bind ?_
  unfold isInstance
  repeat (first | (with_reducible refine wpAny_loadPart_at hx ?_; rw [hc]) | (with_reducible refine wpAny_isSubtype_exc hC ?_; rw [hcB]) | wp_step)
  exact hq
theorem exc_load_entry {tk : Tok} {Q : Fin → Shared → Prop} (hC : h.get? C = some (excClassObj nm q C N bs [.type "Exception", .type "BaseException", .type "object"] true sn sub ab col dd k0 k1 k2 k3 k5 newId)) (hN : h.Ns N mN)
    (hna : mN name = none) (hB : typeLookup (.type "Exception") name = pure none) (hx : h.get? a = some o) (hc : o.cls = .ref C) (hd : o.data = .fields vs) (hdx : o.dict = some dx) (hm : h.Ns dx m) (hv : m name = some v) (hq : Q (.done (.ret v)) ⟨h, g, d, t, os⟩) :
    wpAny (model prog w) A (Builtin.«object.__getattribute__» ⟨[.ref a, .str name tk], []⟩) Q E ⟨h, g, d, t, os⟩ := by
  have hbm := PySem.F.excBase_Exception.mroIs
  repeat (any_goals (first | assumption | (with_reducible refine wpAny_loadPart_at hx ?_; rw [hc]) | (with_reducible refine wpAny_typeLookup_exc hC hN hbm hB ?_; rw [hna]) | (with_reducible refine wpAny_nsGet hm ?_; rw [hv]) | wp_step))
  rw [hd]
  show wpAny _ _ (instanceDict a false) _ _ _
  unfold instanceDict
  repeat (any_goals (first | assumption | (with_reducible refine wpAny_loadPart_at hx ?_; rw [hc]) | with_reducible refine wpAny_loadPart_at hC ?_ | wp_step))
  rw [hdx]
  refine wpAny_pure ?_
  show wpAny _ _ (nsGet dx name) _ _ _
  refine wpAny_nsGet hm ?_
  rw [hv]
  repeat (any_goals (first | assumption | wp_step))
theorem exc_load_call {tk : Tok} {R : Result → Shared → Prop} (hC : h.get? C = some (excClassObj nm q C N bs [.type "Exception", .type "BaseException", .type "object"] true sn sub ab col dd k0 k1 k2 k3 k5 newId)) (hN : h.Ns N mN)
    (hna : mN name = none) (hB : typeLookup (.type "Exception") name = pure none) (hx : h.get? a = some o) (hc : o.cls = .ref C) (hd : o.data = .fields vs) (hdx : o.dict = some dx) (hm : h.Ns dx m) (hv : m name = some v) (hq : R (.ok (.ret v)) ⟨h, g, d, t, os⟩) :
    codeAny (model prog w) A (.call (.builtin "BaseException.__getattribute__") ⟨[.ref a, .str name tk], []⟩) R ⟨h, g, d, t, os⟩ :=
  codeAny_call_builtin PySem.F.attr_Exception.ga.plain PySem.F.entry_bexc_ga (exc_check hC hx hc (exc_load_entry hC hN hna hB hx hc hd hdx hm hv hq))
theorem exc_load_by {tk : Tok} {fill expr : Bool} {Q : Value → Shared → Prop} (hC : h.get? C = some (excClassObj nm q C N bs [.type "Exception", .type "BaseException", .type "object"] true sn sub ab col dd k0 k1 k2 k3 k5 newId)) (hN : h.Ns N mN)
    (m1 : mN "__getattribute__" = none) (m2 : mN "__getattr__" = none) (hna : mN name = none) (hB : typeLookup (.type "Exception") name = pure none) (hx : h.get? a = some o) (hc : o.cls = .ref C) (hd : o.data = .fields vs) (hdx : o.dict = some dx) (hm : h.Ns dx m) (hv : m name = some v)
    (hh : handedOut v = pure v) (hq : Q v ⟨h, g, d, t, os⟩) : wpAny (model prog w) A (getAttrBy (.ref a) (.str name tk) fill expr) Q E ⟨h, g, d, t, os⟩ := by
  have FB := PySem.F.attrBase_Exception
  have hbm := PySem.F.excBase_Exception.mroIs
  have f3 := FB.ga.bind (.ref a)
  have hx0 : (expr && onTheHeap (Value.builtin "BaseException.__getattribute__")) = false := by cases expr <;> rfl
  have hx2 : (Value.builtin "BaseException.__getattribute__" == Value.builtin "object.__getattribute__") = false := by decide +kernel
  have hx1 : (onTheHeap (Value.ref C) && Value.builtin "BaseException.__getattribute__" == Value.builtin "object.__getattribute__") = false := by rw [hx2]; rfl
  repeat (any_goals (first | assumption | (with_reducible refine wpAny_loadPart_at hx ?_; rw [hc]) | (with_reducible refine wpAny_typeLookup_exc hC hN hbm FB.ga.lookup ?_; rw [m1]) | (with_reducible refine wpAny_typeLookup_exc hC hN hbm FB.noGetattr ?_; rw [m2]) | wp_step))
  refine exc_load_call hC hN hna hB hx hc hd hdx hm hv ?_
  repeat (any_goals (first | assumption | wp_step))
theorem exc_load {expr : Bool} {Q : Value → Shared → Prop} (hC : h.get? C = some (excClassObj nm q C N bs [.type "Exception", .type "BaseException", .type "object"] true sn sub ab col dd k0 k1 k2 k3 k5 newId)) (hN : h.Ns N mN)
    (m1 : mN "__getattribute__" = none) (m2 : mN "__getattr__" = none) (hna : mN name = none) (hB : typeLookup (.type "Exception") name = pure none) (hx : h.get? a = some o) (hc : o.cls = .ref C) (hd : o.data = .fields vs) (hdx : o.dict = some dx) (hm : h.Ns dx m) (hv : m name = some v)
    (hh : handedOut v = pure v) (hq : Q v ⟨h, g, d, t + 1, os⟩) : wpAny (model prog w) A (getAttr (.ref a) name expr) Q E ⟨h, g, d, t, os⟩ := by
  unfold getAttr
  repeat (any_goals (first | assumption | with_reducible apply exc_load_by hC hN m1 m2 hna hB hx hc hd hdx hm hv hh | wp_step))
end
end Mine
end
section
open PySem PyProof.Rows
set_option linter.unusedVariables false
set_option linter.unusedSimpArgs false
set_option maxRecDepth 100000
namespace Mine
noncomputable def tryI : Stmt := (dB 37).getD 3 (.Pass ⟨0, 0, 0, 0⟩)
noncomputable def hBody : List Stmt := match tryI with | .Try _ [.ExceptHandler _ _ b _] _ _ _ => b | _ => []
theorem okD_72 : okD (.tup [.int 7, .int 2]) := by unfold okD; rfl
section
variable {prog : Program} {w : World} {A : Around} {E : Value → Shared → Prop} {s : Shared} {L a : Addr} {cd : Value} {m : Str → Option Value}
theorem loc_name {M : Model} {x : Str} {pos : Pos} {v : Value} {Q : Value → Shared → Prop} (hm : s.heap.Ns L m) (hv : m x = some v) (h : Q v s) (hx : (envOfC "_law_ends_right" (dS 37) L a cd).kindOf x = some .local := by rfl) (hd : (x == ("__debug__" : Str)) = false := by decide) :
    wpAny M A (eval (.Name x pos) (envOfC "_law_ends_right" (dS 37) L a cd)) Q E s := wpAny_Name (wpAny_loadName_local (env := envOfC "_law_ends_right" (dS 37) L a cd) rfl hx hm hv h) hd
theorem glo_name {M : Model} {mg : Str → Option Value} {x : Str} {pos : Pos} {v : Value} {Q : Value → Shared → Prop} (hG : s.heap.Ns mainGlobals mg) (hv : mg x = some v) (h : Q v s) (hx : (envOfC "_law_ends_right" (dS 37) L a cd).kindOf x = some .globalImplicit := by rfl) (hd : (x == ("__debug__" : Str)) = false := by decide) :
    wpAny M A (eval (.Name x pos) (envOfC "_law_ends_right" (dS 37) L a cd)) Q E s :=
  Calls.Name_function_global (env := envOfC "_law_ends_right" (dS 37) L a cd) rfl hx (Calls.loadGlobal_global (mg := mg) hG hv h) hd
/-- what the exception bears, readable -/
structure ExA (QC e dx : Addr) (h : Heap) (md : Str → Option Value) : Prop where
  ob : ∃ N mN k0 k1 k2 k3 k5, h.get? QC = some (excClassObj "QuicError" "QuicError" QC N [.type "Exception"] [.type "Exception", .type "BaseException", .type "object"] true [] [] false none none k0 k1 k2 k3 k5 "Exception.__new__") ∧ h.Ns N mN ∧
    mN "__getattribute__" = none ∧ mN "__getattr__" = none ∧ mN "code" = none ∧ mN "frame_type" = none
  ex : ∃ vs sl, h.get? e = some { cls := .ref QC, dict := some dx, data := .fields vs, slots := sl }
  ns : h.Ns dx md
theorem ExA.keeps {QC e dx : Addr} {h h' : Heap} {md : Str → Option Value} (x : ExA QC e dx h md) (k : ∀ b o, h.get? b = some o → h'.get? b = some o) : ExA QC e dx h' md := by
  obtain ⟨⟨N, mN, k0, k1, k2, k3, k5, hC, hN, r⟩, ⟨vs, sl, he⟩, hd⟩ := x
  exact ⟨⟨N, mN, k0, k1, k2, k3, k5, k _ _ hC, hN.keeps k, r⟩, ⟨vs, sl, k _ _ he⟩, hd.keeps k⟩
theorem ExA.attr {QC e dx : Addr} {md : Str → Option Value} (x : ExA QC e dx s.heap md) {nm y : Str} {yp pos : Pos} {v : Value} {Q : Value → Shared → Prop} (hm : s.heap.Ns L m) (hy : m y = some (.ref e)) (hv : md nm = some v) (hh : handedOut v = pure v) (hn : nm = "code" ∨ nm = "frame_type") (h : Q v { s with toks := s.toks + 1 })
    (hx : (envOfC "_law_ends_right" (dS 37) L a cd).kindOf y = some .local := by rfl) (hd : (y == ("__debug__" : Str)) = false := by decide) : wpAny (model prog w) A (eval (.Attribute (.Name y yp) nm pos) (envOfC "_law_ends_right" (dS 37) L a cd)) Q E s := by
  obtain ⟨⟨N, mN, k0, k1, k2, k3, k5, hC, hN, m1, m2, m3, m4⟩, ⟨vs, sl, heO⟩, hdx⟩ := x
  refine Attribute_Name_ (loc_name hm hy ?_ hx hd)
  obtain ⟨hp, g, d, t, os⟩ := s
  rcases hn with rfl | rfl
  · exact exc_load hC hN m1 m2 m3 F.ex_code heO rfl rfl rfl hdx hv hh h
  · exact exc_load hC hN m1 m2 m4 F.ex_ft heO rfl rfl rfl hdx hv hh h
/-- the handler's suite -/
theorem handler_body {QC e dx : Addr} {md mg : Str → Option Value} {t0 t1 t2 t3 : Tok} {Q : Flow → Shared → Prop} (hu : A.units + 100 < cLine) (x : ExA QC e dx s.heap md) (hm : s.heap.Ns L m) (mo : m "off" = some (.int 1 t0)) (mw : m "wrong" = some (.ref e)) (hG : s.heap.Ns mainGlobals mg) (hf : mg "FRAME_ENCODING_ERROR" = some (.int 7 t3))
    (mc : md "code" = some (.int 7 t1)) (mf : md "frame_type" = some (.int 2 t2)) (q : ∀ h' tk, (∀ b o, s.heap.get? b = some o → h'.get? b = some o) → Q (.ret (.bool true)) { s with heap := h', toks := tk }) :
    wpAny (model prog w) A (execs hBody (envOfC "_law_ends_right" (dS 37) L a cd)) Q E s := by
  obtain ⟨hp, g, d, t, os⟩ := s
  refine wpAny_execs_cons (wpAny_Return_some ?_)
  refine BoolOp_and (wpAny_Compare1 (loc_name hm mo (wpAny_Constant_int ?_)) rfl)
  refine eq_int (wpAny_truthy_bool ?_)
  rw [if_pos (by decide)]
  refine BoolOp_and (wpAny_Compare1 (Tuple_ ?_) rfl)
  rw [starEach_cons (by rfl), starEach_cons (by rfl)]
  refine Calls.spliced_cons (x.attr (s := ⟨hp, g, d, t + 1, os⟩) hm mw mc rfl (Or.inl rfl) ?_)
  refine Calls.spliced_cons (ExA.attr (s := ⟨hp, g, d, t + 1 + 1, os⟩) x hm mw mf rfl (Or.inr rfl) (Calls.spliced_nil ?_))
  refine wpAny_newObj_type ?_ (by show (2 : Nat) ≤ sizeLine; rw [sizeLine_eq]; omega)
  generalize hT1 : ({ cls := .type "tuple", data := .seq [Value.int 7 t1, Value.int 2 t2].toArray } : Obj) = o1
  have k1 : ∀ b o, hp.get? b = some o → (hp.push o1).get? b = some o := fun b o z => Heap.get?_push_of_some _ z
  have g1 : (hp.push o1).get? hp.objs.size = some o1 := Heap.get?_push_size _ (by rw [← hT1]; rfl)
  refine Tuple_ ?_
  rw [starEach_cons (by rfl), starEach_cons (by rfl)]
  refine Calls.spliced_cons (glo_name (hG.keeps k1) hf (Calls.spliced_cons (wpAny_Constant_int (k := 0) (pos := ⟨203, 85, 203, 86⟩) (Calls.spliced_nil ?_))))
  refine wpAny_newObj_type ?_ (by show (2 : Nat) ≤ sizeLine; rw [sizeLine_eq]; omega)
  dsimp only
  generalize ht3 : t + 1 + 1 + 1 = t4
  generalize hT2 : ({ cls := .type "tuple", data := .seq [Value.int 7 t3, Value.int 2 t4].toArray } : Obj) = o2
  have k2 : ∀ b o, (hp.push o1).get? b = some o → ((hp.push o1).push o2).get? b = some o := fun b o z => Heap.get?_push_of_some _ z
  have g2 : ((hp.push o1).push o2).get? (hp.push o1).objs.size = some o2 := Heap.get?_push_size _ (by rw [← hT2]; rfl)
  have r1 : Rd (fun _ => Value.none) ((hp.push o1).push o2).get? (.ref hp.objs.size) (.tup [.int 7, .int 2]) := .tup (k2 _ _ g1) (by rw [← hT1]) (by rw [← hT1]) (Nat.le_of_ble_eq_true rfl) (.cons (.int ..) (.cons (.int ..) .nil))
  have r2 : Rd (fun _ => Value.none) ((hp.push o1).push o2).get? (.ref (hp.push o1).objs.size) (.tup [.int 7, .int 2]) := .tup g2 (by rw [← hT2]) (by rw [← hT2]) (Nat.le_of_ble_eq_true rfl) (.cons (.int ..) (.cons (.int ..) .nil))
  have kk : ∀ b o, hp.get? b = some o → ((hp.push o1).push o2).get? b = some o := fun b o z => k2 b o (k1 b o z)
  obtain ⟨as, q1⟩ := rd_reads (fun _ _ z => z) 8 r1 okD_72
  obtain ⟨bs, q2⟩ := rd_reads (fun _ _ z => z) 8 r2 okD_72
  refine eq_dataH q1 q2 (okD_shaped okD_72) (okD_shaped okD_72) (by omega) ?_
  rw [eqv_refl okD_72]
  refine wpAny_truthy_bool ?_
  rw [if_pos rfl]
  refine BoolOp_one (wpAny_Compare1 (ExA.attr (s := ⟨(hp.push o1).push o2, g, d, t4 + 1, os⟩) (x.keeps kk) (hm.keeps kk) mw mc rfl (Or.inl rfl) (wpAny_Constant_int (eq_int ?_))) rfl)
  exact q _ _ kk
end
end Mine
end
section
open PySem PyProof.Rows
set_option linter.unusedVariables false
set_option linter.unusedSimpArgs false
set_option maxRecDepth 100000
namespace Mine
section
variable {σ : Type} {C : Cx σ} {QC N FI : Addr} {mN : Str → Option Value} {k0 k1 k2 k3 k5 : Option Value} {outer : List Env} {st : σ} {B : Heap} {mu : List Addr} {K₀ : Kn} {fa : Addr} {ρ : Ro} {fo : Option (List Dt)} {K : Kn} {h : Heap}
theorem St.frames (S : St C B mu K₀ fa ρ fo K st h) (KS : Stk C B mu outer) : h.FunFrames e0 (C.env :: outer) := by
  obtain ⟨m, hm, _⟩ := S.fr
  obtain ⟨o, es, ep, ho, hd, _⟩ := hm
  exact ⟨by rw [S.ok.kind]; decide, ⟨C.env.locals, o, KS.fl, e0_none _, ho, fun vs z => by rw [hd] at z; cases z⟩, ff_keeps KS.ff fun b hb o z => S.base b o z (KS.off b hb).1 (KS.off b hb).2⟩
theorem ns_slots {h h' : Heap} {L : Addr} {m : Str → Option Value} (n : h.Ns L m) (k : ∀ o, h.get? L = some o → ∃ sl, h'.get? L = some { o with slots := sl }) : h'.Ns L m := by
  obtain ⟨o, es, ep, ho, hd, r⟩ := n
  obtain ⟨sl, hs⟩ := k o ho
  exact ⟨_, es, ep, hs, hd, r⟩
theorem ends_try {L a : Addr} {cd : Value} {s : Shared} {Q : Flow → Shared → Prop} {E : Value → Shared → Prop} (W : Wd C) (hl : 4 ≤ C.lv) (QE : QeF C.g₀ C.mg C.mb QC N FI mN k0 k1 k2 k3 k5) (KS : Stk (C.callee "_law_ends_right" (dS 37) L a cd) B [] outer) (hog : ∀ b ∈ frm outer, C.g₀.get? b = none)
    (S : St (C.callee "_law_ends_right" (dS 37) L a cd) B [] K₀ fa ρ none K st s.heap) {Lg f : Int} {ps : List (Int × Int)} (g1 : ρ.get "largest" = some (.int Lg)) (g2 : ρ.get "first" = some (.int f)) (g3 : ρ.get "pairs" = some (.lst (rng ps))) (g4 : ρ.get "off" = some (.int 1))
    (hp : Lg < f ∨ (f ≤ Lg ∧ rangesBad (Lg - f) ps)) (hlen : ps.length ≤ 1000)
    (q : ∀ h' tk, (∀ b o, b ∉ C.fp → b ∉ frm outer → B.get? b = some o → h'.get? b = some o) → (∀ b ∈ frm outer, ∀ o, B.get? b = some o → ∃ sl, h'.get? b = some { o with slots := sl }) → (∀ b ∈ C.fp, (h'.get? b).isSome = true) → C.Sg st h' → Q (.ret (.bool true)) { s with heap := h', toks := tk }) :
    wpAny (model C.prog C.w) (C.callee "_law_ends_right" (dS 37) L a cd).A (exec tryI (C.callee "_law_ends_right" (dS 37) L a cd).env) Q E s := by
  have W' : Wd (C.callee "_law_ends_right" (dS 37) L a cd) := W.callee
  obtain ⟨v3, m3, r3⟩ := W'.c2
  obtain ⟨t3, rfl⟩ := r3.int_inv
  obtain ⟨ra, ro, rfd, c1, c2, c3, c4⟩ := ranges_call (st := st) W' (by show 3 ≤ C.lv - 1; omega) QE Lg f ps hp hlen KS.fr
  refine wpAny_Try_except (wpAny_execs_cons (wpAny_Return_some (BoolOp_and (wpAny_Compare1 ?_ rfl))))
  have args : ∀ p1 p2 p3, Es (C.callee "_law_ends_right" (dS 37) L a cd) ρ none st [.Name "largest" p1, .Name "first" p2, .Name "pairs" p3] [.int Lg, .int f, .lst (rng ps)] st := fun p1 p2 p3 => Es.cons (Ev.name g1) (Es.cons (Ev.name g2) (Es.cons (Ev.name g3) Es.nil))
  refine wpAny_Call_NameR (S.globName rfl c1 (Calls.callWith_function (o := ro) (fd := rfd) (evalArgs_ns (any_star rfl) (args _ _ _ _ B [] K₀ fa K s _ _ S fun vs h1 tk1 K1 le1 S1 r1 => ⟨⟨S1.gk _ _ c2, c3⟩, ?_⟩))) (by decide))
  have FF := S1.frames KS
  have eF := frm_cons KS
  have hoff : ∀ b ∈ frm ((C.callee "_law_ends_right" (dS 37) L a cd).env :: outer), b ∉ (C.callee "_law_ends_right" (dS 37) L a cd).fp := fun b hb => by
    rw [eF] at hb
    rcases List.mem_cons.mp hb with rfl | hb
    · exact S1.L_fp
    · exact (KS.off b hb).2
  refine c4 B [] K₀ fa ρ none K1 { s with heap := h1, toks := tk1 } vs _ _ S1 r1 FF hoff fun h' tk e dx hr T R x => ?_
  have R' : Rsd (C.callee "_law_ends_right" (dS 37) L a cd) (h1.objs.size :: frm ((C.callee "_law_ends_right" (dS 37) L a cd).env :: outer)) h1 st QC dx e hr := R
  replace x : Fly (h1.objs.size :: frm ((C.callee "_law_ends_right" (dS 37) L a cd).env :: outer)) hr QC dx e .none h' T := x
  clear R
  generalize hF : h1.objs.size :: frm ((C.callee "_law_ends_right" (dS 37) L a cd).env :: outer) = F at R' x
  have subF : ∀ b ∈ frm ((C.callee "_law_ends_right" (dS 37) L a cd).env :: outer), b ∈ F := fun b hb => hF ▸ List.mem_cons_of_mem _ hb
  have LF : L ∈ F := subF L (by rw [eF]; exact List.mem_cons_self)
  have oF : ∀ b ∈ frm outer, b ∈ F := fun b hb => subF b (by rw [eF]; exact List.mem_cons_of_mem _ hb)
  have inF : ∀ b ∈ F, b = h1.objs.size ∨ b = L ∨ b ∈ frm outer := fun b hb => by
    rw [← hF, eF] at hb
    rcases List.mem_cons.mp hb with h | hb
    · exact Or.inl h
    · rcases List.mem_cons.mp hb with h | hb
      · exact Or.inr (Or.inl h)
      · exact Or.inr (Or.inr hb)
  have BL : B.get? L = none := (S1.ow L St.L_mem).resolve_left (by simp)
  have eN : ∀ b o, h1.get? b = some o → b ≠ e := fun b o z y => by rw [y, R'.en] at z; cases z
  have sN : ∀ b o, h1.get? b = some o → b ≠ h1.objs.size := fun b o z y => by rw [y, size_none] at z; cases z
  have KL : K1 L = none := (S1.mt L (List.mem_append.mpr (.inl St.L_mem))).1
  have gL : ∀ b o, C.g₀.get? b = some o → b ≠ L := fun b o z y => by
    have := S1.top b o z
    rw [y, KL] at this; cases this
  have gfp : ∀ b o, C.g₀.get? b = some o → b ∉ (C.callee "_law_ends_right" (dS 37) L a cd).fp := fun b o z y => by
    have := S1.top b o z
    rw [(S1.mt b (List.mem_append.mpr (.inr y))).1] at this; cases this
  have gF : ∀ b o, C.g₀.get? b = some o → b ∉ F := fun b o z y => by
    rcases inF b y with h | h | h
    · exact sN b o (S1.gk b o z) h
    · exact gL b o z h
    · rw [hog b h] at z; cases z
  have gk : ∀ {h : Heap} {fl : Value} {T : Addr}, Fly F hr QC dx e fl h T → ∀ b o, C.g₀.get? b = some o → h.get? b = some o := fun {h fl T} y b o z => y.keep b o (gF b o z) (eN b o (S1.gk b o z)) (R'.keep b o (gfp b o z) (S1.gk b o z))
  have FR : hr.FunFrames e0 ((C.callee "_law_ends_right" (dS 37) L a cd).env :: outer) := ff_keeps FF fun b hb o z => R'.keep b o (hoff b hb) z
  refine note_next (s := { s with heap := h', toks := tk }) KS.fr FR subF R'.some KS.fl x fun h2 T2 x2 => ?_
  refine fly_flight (s := { s with heap := h2, toks := tk }) (fr := none) x2 R'.some fun h3 x3 => ?_
  refine wpAny_handleBy_cons (codeAny_handlers_test (glo_name (s := { s with heap := h3, toks := tk }) (mg := C.mg) (S.ok.g.keeps (gk x3)) QE.nm ?_)) (by intro z; cases z)
  obtain ⟨vs3, sl3, he3, _⟩ := x3.ex
  refine wpAny_excMatches_sub_self (h := h3) (gk x3 _ _ QE.ob) he3 rfl (by decide) ?_
  refine codeAny_handlers_suite_as ?_
  refine fly_flight (s := { s with heap := h3, toks := tk }) (fr := none) x3 R'.some fun h4 x4 => ?_
  obtain ⟨m1, hm1, hr1, _⟩ := S1.fr
  obtain ⟨vo, lo, ro'⟩ := hr1 "off" _ g4
  obtain ⟨t0, rfl⟩ := ro'.int_inv
  have mo : m1 "off" = some (.int 1 t0) := by
    rcases lo with ⟨_, z⟩ | ⟨z | ⟨z, _⟩, _⟩
    · exact z
    · cases z
    · cases z
  have hmr : hr.Ns L m1 := hm1.at' fun o z => R'.keep L o S1.L_fp z
  have hm4 : h4.Ns L m1 := ns_slots hmr fun o z => x4.slots L LF o z
  refine wpAny_storeName_local (s := { s with heap := h4, toks := tk }) (env := (C.callee "_law_ends_right" (dS 37) L a cd).env) rfl hm4 fun h5 hm5 hs5 => ?_
  have g5 : ∀ b o, C.g₀.get? b = some o → h5.get? b = some o := fun b o z => (hs5.2 b (gL b o z)).trans (gk x4 b o z)
  obtain ⟨vs4, sl4, he4, _⟩ := x4.ex
  obtain ⟨md, t1, t2, hd, mc, mf⟩ := R'.ns
  have neL : e ≠ L := fun z => R'.eF (z ▸ LF)
  have dnL : dx ≠ L := fun z => R'.dF (z ▸ LF)
  have X5 : ExA QC e dx h5 md := ⟨⟨N, mN, k0, k1, k2, k3, k5, g5 _ _ QE.ob, QE.ns.keeps g5, QE.m1, QE.m2, QE.m3, QE.m4⟩, ⟨vs4, sl4, (hs5.2 e neL).trans he4⟩, (hd.at' fun o z => x4.keep dx o R'.dF R'.ne z).sameBut hs5 dnL⟩
  have hu := S.ok.un
  refine handler_body (s := ⟨h5, s.gens, s.drawn, tk + 1, s.os⟩) (mg := C.mg) hu X5 hm5 (by rw [if_neg (by decide)]; exact mo) (by rw [if_pos rfl]) (S.ok.g.keeps g5) m3 mc mf fun h6 tk6 k6 => ?_
  have hm6 := hm5.keeps k6
  refine wpAny_bind (wpAny_bindName (wpAny_storeName_local (s := { s with heap := h6, toks := tk6 }) (env := (C.callee "_law_ends_right" (dS 37) L a cd).env) rfl hm6 fun h7 hm7 hs7 => ?_))
  unfold unbindBehindTheSuite
  refine wpAny_onRaise (wpAny_unbindName_local (s := { s with heap := h7, toks := tk6 + 1 }) (env := (C.callee "_law_ends_right" (dS 37) L a cd).env) rfl hm7 (if_pos rfl) rfl fun h8 u hm8 hs8 => ?_)
  have k58 : ∀ b o, b ≠ L → h4.get? b = some o → h8.get? b = some o := fun b o ne z => (hs8.2 b ne).trans ((hs7.2 b ne).trans (k6 b o ((hs5.2 b ne).trans z)))
  have kr8 : ∀ b o, b ∉ F → b ≠ e → hr.get? b = some o → h8.get? b = some o := fun b o hb ne z => k58 b o (fun y => hb (y ▸ LF)) (x4.keep b o hb ne z)
  refine q h8 _ (fun b o hfp hout z => ?_) (fun b hb o z => ?_) (fun b hb => ?_) ?_
  · have z1 := S1.base b o z (by simp) hfp
    exact kr8 b o (fun y => by
      rcases inF b y with h | h | h
      · exact sN b o z1 h
      · rw [h, BL] at z; cases z
      · exact hout h) (eN b o z1) (R'.keep b o hfp z1)
  · have z1 := S1.base b o z (by simp) (KS.off b hb).2
    obtain ⟨sl, z2⟩ := x4.slots b (oF b hb) o (R'.keep b o (KS.off b hb).2 z1)
    exact ⟨sl, k58 b _ (fun y => by rw [y, BL] at z; cases z) z2⟩
  · obtain ⟨o, ho⟩ := Option.isSome_iff_exists.mp (R'.fps b hb (S1.mt b (List.mem_append.mpr (.inr hb))).2)
    rw [kr8 b o (R'.fp b hb).1 (R'.fp b hb).2 ho]; rfl
  · exact S1.ok.sgk st hr h8 (fun b hb o z => kr8 b o (R'.fp b hb).1 (R'.fp b hb).2 z) R'.sg
end
end Mine
end
section
open PySem PyProof.Rows
set_option linter.unusedVariables false
set_option linter.unusedSimpArgs false
set_option maxRecDepth 100000
namespace Mine
/-- what a call that may have let an exception fly leaves -/
structure Dn {σ : Type} (C : Cx σ) (outer : List Env) (B : Heap) (st' : σ) (h' : Heap) : Prop where
  keep : ∀ b o, b ∉ C.fp → b ∉ frm outer → B.get? b = some o → h'.get? b = some o
  slots : ∀ b ∈ frm outer, ∀ o, B.get? b = some o → ∃ sl, h'.get? b = some { o with slots := sl }
  fps : ∀ b ∈ C.fp, (h'.get? b).isSome = true
  sg : C.Sg st' h'
section
variable {σ : Type} {C C' : Cx σ} {ρ ρ' : Ro} {fo : Option (List Dt)} {st st1 st2 : σ} {P : Post σ} {B : Heap} {mu : List Addr} {K₀ : Kn} {fa : Addr} {K : Kn} {h h' : Heap} {outer : List Env}
noncomputable def TsX (C : Cx σ) (outer : List Env) (ρ : Ro) (st : σ) (t : Sem Flow) (st' : σ) : Prop :=
  ∀ (B : Heap) (K₀ : Kn) (fa : Addr) (K : Kn) (s : Shared) (Q : Flow → Shared → Prop) (E : Value → Shared → Prop), St C B [] K₀ fa ρ none K st s.heap → Stk C B [] outer →
    (∀ h' tk, Dn C outer B st' h' → Q (.ret (.bool true)) { s with heap := h', toks := tk }) → wpAny (model C.prog C.w) C.A t Q E s
theorem TsX.of {t : Sem Flow} (h : Ts C ρ none st t (fun fl _ _ st'' => fl = .ret (.bool true) ∧ st'' = st1)) : TsX C outer ρ st t st1 := fun B K₀ fa K s Q E S KS q =>
  h B [] K₀ fa K s Q E S fun f h' tk K' fa' fl ρ' fo' st' p k S' r => by
    obtain ⟨rfl, rfl⟩ := p
    cases f with
    | ret v =>
      rw [show v = .bool true from Rd.bool_inv r]
      exact q h' tk ⟨fun b o hb _ z => S'.base b o z (by simp) hb, fun b hb o z => ⟨o.slots, S'.base b o z (by simp) (KS.off b hb).2⟩, fun b hb => (S'.mt b (List.mem_append.mpr (.inr hb))).2, S'.sg⟩
    | _ => cases r
theorem TsX.next {s : Stmt} {rest : List Stmt} (h : Ex C ρ none st s (fun fl ρ' fo' st' => fl = .next ∧ fo' = none ∧ TsX C outer ρ' st' (execs rest C.env) st1)) : TsX C outer ρ st (execs (s :: rest) C.env) st1 := fun B K₀ fa K s Q E S KS q =>
  wpAny_execs_cons (h B [] K₀ fa K s _ E S fun f h1 tk1 K1 fa1 fl ρ1 fo1 st1' p k1 S1 r1 => by
    obtain ⟨rfl, rfl, hr⟩ := p
    cases f with
    | next => exact hr B K₀ fa1 K1 { s with heap := h1, toks := tk1 } Q E S1 KS q
    | _ => cases r1)
theorem St.dn (S : St C B mu K₀ fa ρ fo K st h) (hf : C.env.frame = some C.env.locals) (hfp : C'.fp = C.fp) (hsg : C'.Sg = C.Sg) (D : Dn C' [C.env] h st1 h') : St C B mu K₀ fa ρ fo K st1 h' := by
  have eF : frm [C.env] = [C.env.locals] := by
    show List.filterMap _ _ = _
    rw [List.filterMap_cons, hf]; rfl
  obtain ⟨k1, k2, k3, k4⟩ := D
  rw [eF, hfp] at k1
  rw [eF] at k2
  rw [hfp] at k3
  rw [hsg] at k4
  have kp : ∀ b o, b ∉ C.fp → b ≠ C.env.locals → h.get? b = some o → h'.get? b = some o := fun b o h1 h2 e => k1 b o h1 (by simpa using h2) e
  have ks : ∀ b, (h.get? b).isSome = true → (h'.get? b).isSome = true := fun b hb => by
    by_cases e1 : b ∈ C.fp
    · exact k3 b e1
    · obtain ⟨o, ho⟩ := Option.isSome_iff_exists.mp hb
      by_cases e2 : b = C.env.locals
      · obtain ⟨sl, z⟩ := k2 b (by simpa using e2) o ho
        rw [z]; rfl
      · rw [kp b o e1 e2 ho]; rfl
  have Kn : ∀ a o, K a = some o → a ∉ ownL C fa fo ++ C.fp := fun a o e hm => by
    have := (S.mt a hm).1
    rw [e] at this; cases this
  have own_fp : ∀ a ∈ ownL C fa fo, a ∉ C.fp := fun a ha hf' => by
    have nd := S.nd
    rw [List.nodup_append] at nd
    exact nd.2.2 a ha a hf' rfl
  obtain ⟨m, hm, hr, hf'⟩ := S.fr
  have hm' : h'.Ns C.env.locals m := ns_slots hm fun o z => k2 _ (by simp) o z
  have cc : ∀ x c, C.env.cells.lookup x = some c → ∀ v, h.IsCell c v → h'.IsCell c v := fun x c hx v i => by
    have i' := i
    obtain ⟨o, ho, hd⟩ := i
    exact ⟨o, kp c o (S.ok.cf x c hx) (cell_ne hm i') ho, hd⟩
  exact {
    ok := S.ok
    base := fun b o e hb hf => kp b o hf (fun z => by
      rcases S.ow b (z ▸ St.L_mem) with w | w
      · exact hb w
      · rw [w] at e; cases e) (S.base b o e hb hf)
    ex := fun b hb => ks b (S.ex b hb)
    kx := S.kx
    kn := fun a o e => kp a o (fun z => Kn a o e (List.mem_append.mpr (.inr z))) (fun z => Kn a o e (List.mem_append.mpr (.inl (z ▸ St.L_mem)))) (S.kn a o e)
    top := S.top
    mt := fun a ha => ⟨(S.mt a ha).1, ks a (S.mt a ha).2⟩
    ow := S.ow
    nd := S.nd
    fr := ⟨m, hm', fun x d e => by
        obtain ⟨v, l, r⟩ := hr x d e
        exact ⟨v, Look.imp_cell (fun c hc v i => cc _ c hc v i) l, r⟩,
      fun ds e => Look.imp_cell (fun c hc v i => cc _ c hc v i) (hf' ds e)⟩
    fl := fun ds e => let ⟨vs, n, g, hl, r⟩ := S.fl ds e; ⟨vs, n, kp fa _ (own_fp fa (by subst e; simp [ownL])) (list_ne hm g) g, hl, r⟩
    ce := fun p hp => let ⟨v, i⟩ := S.ce p hp; ⟨v, cc p.1 p.2 (S.ok.cl p hp) v i⟩
    sg := k4 }
theorem FnOk.of_X {i : Nat} {n : Str} {ps : List (Str × Dt)} (W : Wd C) (hn : dN i = n) (hne : n ≠ "") (hl : 1 ≤ C.lv) (hs : sigOk (dS i) (ps.map (·.1)) = true)
    (hb : ∀ pm cd doc (vs : List Value), vs.length = ps.length → bindArgs (Calls.docDef n (dP i) (dB i) (dS i) pm cd doc) ⟨vs, []⟩ = pure ((ps.map (·.1)).zip vs)) (hfr : C.A.frames = some [C.env]) (hf : C.env.frame = some C.env.locals)
    (body : (∀ b ∈ frm [C.env], C.g₀.get? b = none) → ∀ L a cd, TsX (C.callee n (dS i) L a cd) [C.env] (ro0 (dS i) ps) st (execs (dB i) (C.callee n (dS i) L a cd).env) st1) : FnOk C n (ps.map (·.2)) st (.bool true) st1 := by
  obtain ⟨a, o, pm, cd, doc, h1, h2, h3, h4⟩ := W.fn i n hn hne
  refine ⟨a, o, _, h1, h2, h3, fun B mu K₀ fa ρ fo K s vs Q E S r q => ?_⟩
  have eF : frm [C.env] = [C.env.locals] := by
    show List.filterMap _ _ = _
    rw [List.filterMap_cons, hf]; rfl
  have hs' := hs
  unfold sigOk at hs'
  simp only [Bool.and_eq_true] at hs'
  obtain ⟨⟨⟨⟨⟨s1, s2⟩, s3⟩, s4⟩, s5⟩, s6⟩ := hs'
  have hlen : vs.length = ps.length := by rw [r.length]; simp
  have hroom : C.A.depth < recursionLimit := by have := S.ok.room.1; omega
  refine wpAny_call (call_cells_ret (binds := (ps.map (·.1)).zip vs) hroom (S.gk _ _ h2) h3 (W.nl.keeps S.gk) (h4.keeps S.gk) (hb pm cd doc vs hlen) (fun x hx => ?_) (fun h₁ tk F X => ?_) (by simpa using s4) (by simpa using s5) (by simpa using s6))
  · have hx' : x.1 ∈ ps.map (·.1) := by
      have : x.1 ∈ ((ps.map (·.1)).zip vs).map (·.1) := List.mem_map.mpr ⟨x, hx, rfl⟩
      rwa [zip_keys (by rw [hlen]; simp)] at this
    have := List.all_eq_true.mp s3 x.1 hx'
    rw [Bool.or_eq_true] at this
    rcases this with q | q
    · exact Or.inl (by simpa using q)
    · have q' : (dS i).names.lookup x.1 = some .cell := by simpa using q
      obtain ⟨c, hc⟩ := cellsFrom_has (lo := s.heap.objs.size + 1) (acc := []) (mem_of_lookup q')
      exact Or.inr ⟨q', lookup_isSome hc⟩
  · have S1 := S.start (n := n) (a := a) (cd := cd) hl hs r F X
    obtain ⟨m, ⟨oL, es, ep, ho, hd, hrest⟩, _⟩ := id S.fr
    have KS : Stk (C.callee n (dS i) s.heap.objs.size a cd) s.heap [] [C.env] := ⟨Around.frames_deeper hfr, rfl, ⟨by rw [S.ok.kind]; decide, ⟨C.env.locals, oL, hf, e0_none _, ho, fun vs z => by rw [hd] at z; cases z⟩, trivial⟩, fun b hb => by
      rw [eF] at hb
      rw [List.mem_singleton.mp hb]
      exact ⟨by simp, S.L_fp⟩⟩
    have hog : ∀ b ∈ frm [C.env], C.g₀.get? b = none := fun b hb => by
      rw [eF] at hb
      rw [List.mem_singleton.mp hb]
      cases z : C.g₀.get? C.env.locals with
      | none => rfl
      | some o =>
        have := (S.mt _ (List.mem_append.mpr (.inl St.L_mem))).1
        rw [S.top _ o z] at this; cases this
    exact body hog s.heap.objs.size a cd s.heap K 0 K { s with heap := h₁, toks := tk } _ _ S1 KS fun h' tk' D => q (.bool true) h' tk' K (.refl _) (S.dn (C' := C.callee n (dS i) s.heap.objs.size a cd) hf rfl rfl D) (.bool true)
theorem Ex.tryP {body orelse : List Stmt} {h₀ : ExceptHandler} {hs : List ExceptHandler} {pos : Pos} (hb : Exs C ρ fo st body (fun fl ρ' fo' st' => fl ≠ .next ∧ P fl ρ' fo' st')) : Ex C ρ fo st (.Try body (h₀ :: hs) orelse [] pos) P :=
  fun B mu K₀ fa K s Q E S q => wpAny_Try_except (hb B mu K₀ fa K s _ _ S fun f h1 tk1 K1 fa1 fl ρ1 fo1 st1 p k1 S1 r1 => by
    cases f with
    | next =>
      cases fl with
      | next => exact absurd rfl p.1
      | _ => cases r1
    | _ => exact q _ h1 tk1 K1 fa1 fl ρ1 fo1 st1 p.2 k1 S1 r1)
end
section
variable {C : Cx Nat} {QC N FI : Addr} {mN : Str → Option Value} {k0 k1 k2 k3 k5 : Option Value} {n : Nat} {ρ : Ro} {bx ba : Addr} {xs : List Int}
theorem ends_fin {L a : Addr} {cd : Value} (W : Wd C) (hl : 4 ≤ C.lv) (QE : QeF C.g₀ C.mg C.mb QC N FI mN k0 k1 k2 k3 k5) (hog : ∀ b ∈ frm [C.env], C.g₀.get? b = none) {Lg f off : Int} {ps due : List (Int × Int)} (g1 : ρ.get "largest" = some (.int Lg)) (g2 : ρ.get "first" = some (.int f))
    (g3 : ρ.get "pairs" = some (.lst (rng ps))) (g4 : ρ.get "off" = some (.int off)) (g5 : ρ.get "due" = some (.lst (rng due))) (hlen : ps.length ≤ 1000)
    (hp : (off = 0 ∧ f ≤ Lg ∧ rangesOk (Lg - f) ps ∧ due = (Lg - f, Lg) :: rangesF (Lg - f) ps) ∨ (off = 1 ∧ (Lg < f ∨ (f ≤ Lg ∧ rangesBad (Lg - f) ps)))) :
    TsX (C.callee "_law_ends_right" (dS 37) L a cd) [C.env] ρ n (execs [tryI] (C.callee "_law_ends_right" (dS 37) L a cd).env) n := by
  have W' : Wd (C.callee "_law_ends_right" (dS 37) L a cd) := W.callee
  rcases hp with ⟨rfl, h1, h2, rfl⟩ | ⟨rfl, h1⟩
  · have hr := fn_ranges_of (st := n) W' (by show 1 ≤ C.lv - 1; omega) Lg f ps h1 h2 hlen
    refine TsX.of ?_
    refine Exs.cons ?_
    refine Ex.tryP ?_
    refine Exs.cons ?_
    refine Ex.ret (d := .bool true) (st1 := n) ?_ ⟨by simp, rfl, rfl⟩
    refine Ev.and_t (st1 := n) ?_ ?_
    · refine Ev.cmp (Ev.callF (Es.cons (Ev.name g1) (Es.cons (Ev.name g2) (Es.cons (Ev.name g3) Es.nil))) hr) (Ev.name g5) (.eqD _ (okD_rng _))
    · exact Ev.bool1 (Ev.cmp (Ev.name g4) Ev.cint (eq_t rfl))
  · intro B K₀ fa K s Q E S KS q
    refine wpAny_execs_cons ?_
    refine ends_try W hl QE KS hog S g1 g2 g3 g4 h1 hlen ?_
    intro h' tk k1 k2 k3 k4
    exact q h' tk ⟨k1, k2, k3, k4⟩
noncomputable def Ro.sets : Ro → List Str → List Dt → Option Ro
  | ρ, [], [] => some ρ
  | ρ, x :: xs, d :: ds => (Ro.set ρ x d).bind fun ρ₁ => Ro.sets ρ₁ xs ds
  | _, _, _ => none
theorem BindN.ofSets {σ : Type} {C : Cx σ} : ∀ {xs : List Str} {ds : List Dt} {ρ ρ' : Ro}, xs.all (fun x => C.env.kindOf x == some .local) = true → Ro.sets ρ xs ds = some ρ' → BindN C none xs ds ρ ρ'
  | [], [], _, _, _, h => by cases h; exact .nil
  | x :: xs, d :: ds, ρ, ρ', hk, h => by
    rw [List.all_cons, Bool.and_eq_true] at hk
    obtain ⟨ρ₁, h1, h2⟩ := Option.bind_eq_some_iff.mp (show (Ro.set ρ x d).bind _ = _ from h)
    exact .cons (Or.inl (by simpa using hk.1)) (Or.inr rfl) h1 (BindN.ofSets hk.2 h2)
  | [], _ :: _, _, _, _, h => by cases h
  | _ :: _, [], _, _, _, h => by cases h
theorem ev_pair {σ : Type} {C : Cx σ} {ρ : Ro} {st : σ} {x y : Expr} {k : Nat} {p : Pos} {a b : Int} (h1 : Ev C ρ none st x (.int a) st) (h2 : Ev C ρ none st y (.int b) st) (s1 : noStar x = true := by rfl) (s2 : noStar y = true := by rfl) : Ev C ρ none st (.Tuple [x, y] k p) (pr (a, b)) st :=
  Ev.tuple (Es.cons h1 (Es.cons h2 Es.nil s2) s1)
theorem ev_one {σ : Type} {C : Cx σ} {ρ : Ro} {st : σ} {x : Expr} {p : Pos} {a : Int × Int} (h1 : Ev C ρ none st x (pr a) st) (s1 : noStar x = true := by rfl) : Ev C ρ none st (.List [x] p) (.lst (rng [a])) st :=
  Ev.list (Es.cons h1 Es.nil s1)
theorem ev_two {σ : Type} {C : Cx σ} {ρ : Ro} {st : σ} {x y : Expr} {p : Pos} {a b : Int × Int} (h1 : Ev C ρ none st x (pr a) st) (h2 : Ev C ρ none st y (pr b) st) (s1 : noStar x = true := by rfl) (s2 : noStar y = true := by rfl) : Ev C ρ none st (.List [x, y] p) (.lst (rng [a, b])) st :=
  Ev.list (Es.cons h1 (Es.cons h2 Es.nil s2) s1)
theorem ev_three {σ : Type} {C : Cx σ} {ρ : Ro} {st : σ} {x y z : Expr} {p : Pos} {a b c : Int × Int} (h1 : Ev C ρ none st x (pr a) st) (h2 : Ev C ρ none st y (pr b) st) (h3 : Ev C ρ none st z (pr c) st) (s1 : noStar x = true := by rfl) (s2 : noStar y = true := by rfl) (s3 : noStar z = true := by rfl) :
    Ev C ρ none st (.List [x, y, z] p) (.lst (rng [a, b, c])) st := Ev.list (Es.cons h1 (Es.cons h2 (Es.cons h3 Es.nil s3) s2) s1)
theorem ev_tup3 {σ : Type} {C : Cx σ} {ρ : Ro} {st : σ} {x y z : Expr} {k : Nat} {p : Pos} {a b c : Dt} (h1 : Ev C ρ none st x a st) (h2 : Ev C ρ none st y b st) (h3 : Ev C ρ none st z c st) (s1 : noStar x = true := by rfl) (s2 : noStar y = true := by rfl) (s3 : noStar z = true := by rfl) :
    Ev C ρ none st (.Tuple [x, y, z] k p) (.tup [a, b, c]) st := Ev.tuple (Es.cons h1 (Es.cons h2 (Es.cons h3 Es.nil s3) s2) s1)
noncomputable def endsRo (form off size first : Int) (pairs due : List (Int × Int)) : Ro := [("box", some (.hd 0)), ("form", some (.int form)), ("off", some (.int off)), ("size", some (.int size)), ("largest", some (.int 9)), ("first", some (.int first)), ("pairs", some (.lst (rng pairs))), ("due", some (.lst (rng due))), ("wrong", none)]
set_option maxHeartbeats 2000000 in
theorem ends_if {L a : Addr} {cd : Value} {form off size : Int} (h0 : 0 ≤ form) (h3 : form < 3) : ∃ f ps due, ps.length ≤ 1000 ∧ ((off = 0 → f ≤ 9 ∧ rangesOk (9 - f) ps ∧ due = (9 - f, 9) :: rangesF (9 - f) ps) ∧ (off = 1 → (9 < f ∨ (f ≤ 9 ∧ rangesBad (9 - f) ps)))) ∧
    Ex (C.callee "_law_ends_right" (dS 37) L a cd) (endsRo form off size (9 + off) [] [(0, 9)]) none n ((dB 37).getD 2 (.Pass ⟨0, 0, 0, 0⟩)) (fun fl ρ' fo' st' => fl = .next ∧ fo' = none ∧ st' = n ∧ ρ' = endsRo form off size f ps due) := by
  have hfm : form = 0 ∨ form = 1 ∨ form = 2 := by omega
  rcases hfm with rfl | rfl | rfl
  · refine ⟨9 + off, [], [(0, 9)], by simp, ⟨fun h => ?_, fun h => ?_⟩, ?_⟩
    · subst h; exact ⟨by decide, trivial, by simp [rangesF]⟩
    · subst h; exact Or.inl (by decide)
    · refine Ex.ite_f (st1 := n) ?_ ?_
      · exact Tst.cmp (Ev.name rfl) Ev.cint (eq_f (by decide))
      · refine Exs.cons ?_
        refine Ex.ite_f (st1 := n) ?_ ?_
        · exact Tst.cmp (Ev.name rfl) Ev.cint (eq_f (by decide))
        · exact Exs.nil (Exs.nil ⟨rfl, rfl, rfl, rfl⟩)
  · refine ⟨3, [(4 + off - size, size)], [(6, 9), (0, size)], by simp, ⟨fun h => ?_, fun h => ?_⟩, ?_⟩
    · subst h; exact ⟨by decide, ⟨by omega, trivial⟩, by simp [rangesF]; omega⟩
    · subst h; exact Or.inr ⟨by decide, Or.inl (by omega)⟩
    · refine Ex.ite_t (st1 := n) ?_ ?_
      · exact Tst.cmp (Ev.name rfl) Ev.cint (eq_t rfl)
      · refine Exs.cons ?_
        refine Ex.assignS (st1 := n) (ρ' := endsRo 1 off size 3 [(4 + off - size, size)] [(6, 9), (0, size)]) (names := ["first", "pairs", "due"]) (ds := [.int 3, .lst (rng [(4 + off - size, size)]), .lst (rng [(6, 9), (0, size)])]) ?_ (.ofSets (by kernel_rfl) (by kernel_rfl)) (Exs.nil ⟨rfl, rfl, rfl, rfl⟩)
        refine ev_tup3 Ev.cint ?_ ?_
        · exact ev_one (ev_pair (Ev.bin (Ev.bin Ev.cint (Ev.name rfl) (.addI _ _)) (Ev.name rfl) (.subI _ _)) (Ev.name rfl))
        · exact ev_two (ev_pair Ev.cint Ev.cint) (ev_pair Ev.cint (Ev.name rfl))
  · refine ⟨0, [(0, 1), (2 - size + off, size + 2)], [(9, 9), (6, 7), (0, size + 2)], by simp, ⟨fun h => ?_, fun h => ?_⟩, ?_⟩
    · subst h; exact ⟨by decide, ⟨by decide, by omega, trivial⟩, by simp [rangesF]; omega⟩
    · subst h; exact Or.inr ⟨by decide, Or.inr ⟨by decide, Or.inl (by omega)⟩⟩
    · refine Ex.ite_f (st1 := n) ?_ ?_
      · exact Tst.cmp (Ev.name rfl) Ev.cint (eq_f (by decide))
      · refine Exs.cons ?_
        refine Ex.ite_t (st1 := n) ?_ ?_
        · exact Tst.cmp (Ev.name rfl) Ev.cint (eq_t rfl)
        · refine Exs.cons ?_
          refine Ex.assignS (st1 := n) (ρ' := endsRo 2 off size 0 [(0, 1), (2 - size + off, size + 2)] [(9, 9), (6, 7), (0, size + 2)]) (names := ["first", "pairs", "due"]) (ds := [.int 0, .lst (rng [(0, 1), (2 - size + off, size + 2)]), .lst (rng [(9, 9), (6, 7), (0, size + 2)])]) ?_
            (.ofSets (by kernel_rfl) (by kernel_rfl)) (Exs.nil (Exs.nil ⟨rfl, rfl, rfl, rfl⟩))
          refine ev_tup3 Ev.cint ?_ ?_
          · exact ev_two (ev_pair Ev.cint Ev.cint) (ev_pair (Ev.bin (Ev.bin Ev.cint (Ev.name rfl) (.subI _ _)) (Ev.name rfl) (.addI _ _)) (Ev.bin (Ev.name rfl) Ev.cint (.addI _ _)))
          · exact ev_three (ev_pair Ev.cint Ev.cint) (ev_pair Ev.cint Ev.cint) (ev_pair Ev.cint (Ev.bin (Ev.name rfl) Ev.cint (.addI _ _)))
set_option maxHeartbeats 2000000 in
theorem fn_ends (W : Wd C) (X : BoxC C bx ba xs) (hl : 4 ≤ C.lv) (QE : QeF C.g₀ C.mg C.mb QC N FI mN k0 k1 k2 k3 k5) (hfr : C.A.frames = some [C.env]) (hf : C.env.frame = some C.env.locals) : FnOk C "_law_ends_right" [.hd 0] n (.bool true) (n + 3) := by
  refine FnOk.of_X (i := 37) (ps := [("box", .hd 0)]) W rfl (by decide) (by omega) rfl (fun pm cd doc vs h => by match vs, h with | [a], _ => rfl) hfr hf fun hog L a cd => ?_
  have hl1 : 1 ≤ C.lv - 1 := by omega
  have hW : Wd (C.callee "_law_ends_right" (dS 37) L a cd) := W.callee
  obtain ⟨form, a0, a1, ta⟩ := fn_take (n := n) hW X.callee hl1 3 (by decide)
  obtain ⟨off, b0, b1, tb⟩ := fn_take (n := n + 1) hW X.callee hl1 2 (by decide)
  obtain ⟨size, c0, c1, tc⟩ := fn_take (n := n + 1 + 1) hW X.callee hl1 3 (by decide)
  refine TsX.next ?_
  refine Ex.assignS (ρ' := [("box", some (.hd 0)), ("form", some (.int form)), ("off", some (.int off)), ("size", some (.int size)), ("largest", none), ("first", none), ("pairs", none), ("due", none), ("wrong", none)]) (names := ["form", "off", "size"]) (ds := [.int form, .int off, .int size]) (st1 := n + 1 + 1 + 1) ?_ (.ofSets (by kernel_rfl) (by kernel_rfl)) ⟨rfl, rfl, ?_⟩
  · refine Ev.tuple (Es.cons (st1 := n + 1) ?_ (Es.cons (st1 := n + 1 + 1) ?_ (Es.cons (st1 := n + 1 + 1 + 1) ?_ Es.nil)))
    · exact Ev.callF (Es.cons (Ev.name rfl) (Es.cons Ev.cint Es.nil)) ta
    · exact Ev.callF (Es.cons (Ev.name rfl) (Es.cons Ev.cint Es.nil)) tb
    · exact Ev.callF (Es.cons (Ev.name rfl) (Es.cons Ev.cint Es.nil)) tc
  refine TsX.next ?_
  refine Ex.assignT (Ev.tuple (Es.cons Ev.cint (Es.cons (Ev.bin Ev.cint (Ev.name rfl) (.addI _ _)) (Es.cons (Ev.list Es.nil) (Es.cons (ev_one (ev_pair Ev.cint Ev.cint)) Es.nil)))))
    (.cons (Or.inl rfl) (Or.inr rfl) rfl (.cons (Or.inl rfl) (Or.inr rfl) rfl (.cons (Or.inl rfl) (Or.inr rfl) rfl (.cons (Or.inl rfl) (Or.inr rfl) rfl .nil)))) ⟨rfl, rfl, ?_⟩
  obtain ⟨f, ps, due, hlen, ⟨hz, ho⟩, hif⟩ := ends_if (C := C) (n := n + 1 + 1 + 1) (L := L) (a := a) (cd := cd) (off := off) (size := size) a0 a1
  refine TsX.next ?_
  refine Ts.mono hif fun fl ρ' fo' st' p => ?_
  obtain ⟨rfl, rfl, rfl, rfl⟩ := p
  refine ⟨rfl, rfl, ends_fin W hl QE hog (Lg := 9) (f := f) (off := off) (ps := ps) (due := due) rfl rfl rfl rfl rfl hlen ?_⟩
  by_cases h : off = 0
  · exact Or.inl ⟨h, hz h⟩
  · exact Or.inr ⟨by omega, ho (by omega)⟩
end
end Mine
end
section
open PySem PyProof.Rows
set_option linter.unusedVariables false
set_option linter.unusedSimpArgs false
set_option maxRecDepth 100000
namespace Mine
namespace F
theorem ba_mro : mroOf (.type "bytearray") = pure [.type "bytearray", .type "object"] := by rw [mroOf_type]; kernel_rfl
theorem ba_lookup_new : typeLookup (.type "bytearray") "__new__" = pure (some (.builtin "bytearray.__new__")) := by rw [typeLookup_type, builtinLookup_eq_fast]; kernel_rfl
theorem ba_slot_init : Slot "bytearray" "__init__" "bytearray.__init__" :=
  .of (owner := "bytearray") (n := "__init__") (by rw [typeLookup_type, builtinLookup_eq_fast]; kernel_rfl) (by decide +kernel) (by decide +kernel) (by decide +kernel)
    (by first | exact .inl (by decide +kernel) | exact .inr (by decide +kernel)) (by rw [isSubtype_type]; kernel_rfl)
theorem ba_called : TypeCalled "bytearray" "bytearray.__new__" "bytearray.__init__" :=
  ⟨by decide +kernel, by decide +kernel, ⟨_, _, ba_mro⟩, madeBy_type ba_mro ba_lookup_new (by decide +kernel), by decide +kernel, by rw [isSubtype_type]; kernel_rfl, ba_slot_init⟩
theorem ba_typeCall (a : Value) : checkTypeCall "bytearray" ⟨[a], []⟩ = pure () := by kernel_rfl
theorem ba_newCall (a : Value) : checkBuiltinCall "bytearray.__new__" ⟨[.type "bytearray", a], []⟩ = pure () := by kernel_rfl
theorem ba_entry_new : entryFor table "bytearray.__new__" = some Builtin.«list.__new__» := entryFor_alias (id' := "list.__new__") (by kernel_rfl) (by decide +kernel) (by decide +kernel) (by kernel_rfl)
theorem ba_plain_new : plainId "bytearray.__new__" = true := by decide +kernel
theorem ba_entry_init : entryFor table "bytearray.__init__" = some Builtin.«bytearray.__init__» := by first | exact entryFor_of_fast (by kernel_rfl) | exact entryFor_of_tree (by kernel_rfl)
theorem ba_owner : Manifest.owners.lookup (String.ofList "bytearray".toList.reverse.reverse) = some Manifest.sig_bytearray := by kernel_rfl
theorem ba_args_init (a b : Value) : argsOk "bytearray.__init__" ⟨[a, b], []⟩ := by
  unfold argsOk; rw [signature?_of (id := "bytearray.__init__") (n := "__init__".toList.reverse) (o := "bytearray".toList.reverse) (by kernel_rfl) ba_owner]; kernel_rfl
theorem ba_noindex : typeLookup (.type "bytearray") "__index__" = pure none := by rw [typeLookup_type, builtinLookup_eq_fast]; kernel_rfl
theorem ba_nobytes : typeLookup (.type "bytearray") "__bytes__" = pure none := by rw [typeLookup_type, builtinLookup_eq_fast]; kernel_rfl
theorem ba_buffer : typeLookup (.type "bytearray") "__buffer__" = pure (some (.builtin "bytearray.__buffer__")) := by rw [typeLookup_type, builtinLookup_eq_fast]; kernel_rfl
theorem ba_release : typeLookup (.type "bytearray") "__release_buffer__" = pure (some (.builtin "bytearray.__release_buffer__")) := by rw [typeLookup_type, builtinLookup_eq_fast]; kernel_rfl
theorem ba_sub : isSubtype (.type "bytearray") (.type "bytearray") = pure true := by rw [isSubtype_type]; kernel_rfl
theorem ba_bind (v : Value) : Builtin.Bytes.bindOptional "bytearray.__init__" "bytearray" ["source", "encoding", "errors"] [v] [] = pure [some v, none, none] := by kernel_rfl
theorem int_index : typeLookup (.type "int") "__index__" = pure (some (.builtin "int.__index__")) := by rw [typeLookup_type, builtinLookup_eq_fast]; kernel_rfl
end F
set_option maxRecDepth 1000000 in
set_option maxHeartbeats 4000000 in
theorem owner_ba_new : ("bytearray.__new__".splitOn ".__new__").headD "" = "bytearray" := by simp +decide [String.splitOn, String.splitOnAux]
theorem ends1 : ("bytearray.__release_buffer__").endsWith ("." ++ "__release_buffer__") = true := by decide +kernel
theorem ends2 : ("bytearray.__buffer__").endsWith ("." ++ "__buffer__") = true := by decide +kernel
theorem drop1 : ("bytearray.__release_buffer__").dropRight ("__release_buffer__".length + 1) = "bytearray" := by decide +kernel
theorem drop2 : ("bytearray.__buffer__").dropRight ("__buffer__".length + 1) = "bytearray" := by decide +kernel
noncomputable abbrev baObj (b : Array UInt8) : Obj := { cls := .type "bytearray", data := .bytearray b }
section
variable {prog : Program} {w : World} {A : Around} {E : Value → Shared → Prop} {s : Shared}
theorem code_ba_new (a : Value) {Q₁ : Value → Shared → Prop}
    (h : Q₁ (.ref s.heap.objs.size) { s with heap := s.heap.push (baObj #[]) }) :
    codeAny (model prog w) A (.call (.builtin "bytearray.__new__") ⟨[.type "bytearray", a], []⟩) (wants Q₁ E) s := by
  refine codeAny_of_tree ?_
  show wpAny _ A.in1 (do checkBuiltinCall "bytearray.__new__" ⟨[.type "bytearray", a], []⟩; again (.builtin "bytearray.__new__" ⟨[.type "bytearray", a], []⟩)) _ _ s
  refine wpAny_bind (wpAny_of_eq (F.ba_newCall a) (wpAny_pure ⟨plainId_quiet F.ba_plain_new _, codeAny_builtin_stack F.ba_entry_new rfl fun p st => ?_⟩))
  rw [Around.under_plainId F.ba_plain_new _]
  have hsub := F.ba_sub
  have hown := owner_ba_new
  obtain ⟨hp, g, d, tk, os⟩ := s
  simp only [hown]
  wp_walk
  exact h
end
end Mine
end
section
open PySem PyProof.Rows
open PySem.Sem (wp)
set_option linter.unusedVariables false
set_option linter.unusedSimpArgs false
namespace Mine
/-- no code that the bytearray's maker looks for -/
noncomputable def calm : Code → Bool
  | .builtin id _ => !(guardIds.contains id || Builtin.Bytes.decodersThatHold.contains id)
  | _ => true
noncomputable def calmAll (l : List (Code × Pos)) : Prop := ∀ x ∈ l, calm x.1 = true
noncomputable def wpN {α : Type} (M : Model) (A : Around) (t : Sem α) (Q : α → Shared → Prop) (E : Value → Shared → Prop) (s : Shared) : Prop :=
  ∀ Γ p, Γ.In A → calm Γ.code = true → calmAll Γ.below → wp M Γ t (fun a _ s' => Q a s') (fun e _ s' => E e s') p s
noncomputable def codeN (M : Model) (A : Around) (c : Code) (R : Result → Shared → Prop) (s : Shared) : Prop :=
  ∀ Γ p, Γ.code = c → Γ.Below A → calmAll Γ.below → wpCode M Γ R p s
section
variable {α β : Type} {M : Model} {A : Around} {E E' : Value → Shared → Prop} {s : Shared} {t : Sem α}
theorem nOf {Q : α → Shared → Prop} (h : wpAny M A t Q E s) : wpN M A t Q E s := fun Γ p i _ _ => h Γ p i
theorem cOf {c : Code} {R : Result → Shared → Prop} (h : codeAny M A c R s) : codeN M A c R s := fun Γ p e b _ => h Γ p e b
theorem nMono {Q Q' : α → Shared → Prop} (h : wpN M A t Q E s) (hQ : ∀ a s, Q a s → Q' a s) (hE : ∀ e s, E e s → E' e s) : wpN M A t Q' E' s :=
  fun Γ p i c b => Sem.wp_mono M Γ t (fun a _ s => hQ a s) (fun e _ s => hE e s) p s (h Γ p i c b)
theorem nBind {m : Sem α} {f : α → Sem β} {Q : β → Shared → Prop} (h : wpN M A m (fun a s' => wpN M A (f a) Q E s') E s) : wpN M A (m >>= f) Q E s := fun Γ p i c b => by
  rw [Sem.wp_bind']
  exact Sem.wp_mono M Γ m (fun a p' s' h' => h' Γ p' i c b) (fun _ _ _ h' => h') p s (h Γ p i c b)
/-- a plain step ahead -/
theorem nThen {m : Sem α} {f : α → Sem β} {Q : β → Shared → Prop} (h : wpAny M A m (fun a s' => wpN M A (f a) Q E s') E s) : wpN M A (m >>= f) Q E s := nBind (nOf h)
theorem nPure {a : α} {Q : α → Shared → Prop} (h : Q a s) : wpN M A (pure a) Q E s := fun _ _ _ _ _ => h
theorem nHold {vs : List Value} {Q : α → Shared → Prop} (h : wpN M A t Q E s) : wpN M A (holding vs t) Q E s := fun Γ p i c b => by rw [Sem.wp_holding]; exact h Γ p i c b
theorem nRaise {k : Value → Sem Unit} {Q : α → Shared → Prop} (h : wpN M A t Q (fun e s' => wpN M A (k e) (fun _ s'' => E e s'') E s') s) : wpN M A (t.onRaise k) Q E s := fun Γ p i c b => by
  rw [Sem.wp_onRaise]
  exact Sem.wp_mono M Γ t (fun _ _ _ h' => h') (fun e p' s' h' => h' Γ p' i c b) p s (h Γ p i c b)
theorem calm_enter {Γ : Ctx} {c : Code} {h : Option Value} {p : Pos} (hc : calm Γ.code = true) (hb : calmAll Γ.below) : calmAll (Γ.enter c h p).below := fun x hx => by
  rcases List.mem_cons.mp hx with rfl | hx
  · exact hc
  · exact hb x hx
theorem nRun {c : Code} {h : Option Value} {Q : Flow → Shared → Prop} (hc : codeN M (A.mark h) c (fun r s' => match r with | .ok f => Q f s' | .error e => E e s') s) (hnb : h ≠ some byPass := by intro x; cases x) :
    wpN M A (run c h) Q E s := fun Γ p i k b => by
  rw [Sem.wp_run]; exact hc _ p rfl (i.enter c h p hnb) (calm_enter k b)
theorem nRunValue {c : Code} {Q : Value → Shared → Prop} (hc : codeN M A c (fun r s' => match r with | .ok (.ret v) => Q v s' | .ok _ => False | .error e => E e s') s) :
    wpN M A (runValue c) Q E s := fun Γ p i k b => by
  rw [Sem.wp_runValue]; exact hc _ p rfl (i.enter c none p (by intro x; cases x)) (calm_enter k b)
theorem nCall {f : Value} {pos : List Value} {kw : List (Str × Value)} {Q : Value → Shared → Prop}
    (hc : codeN M A (.call f ⟨pos, kw⟩) (fun r s' => match r with | .ok (.ret v) => Q v s' | .ok _ => False | .error e => E e s') s) : wpN M A (call f pos kw) Q E s := nRunValue hc
theorem cMono {c : Code} {R R' : Result → Shared → Prop} (h : codeN M A c R s) (hR : ∀ r s, R r s → R' r s) : codeN M A c R' s := fun Γ p e b k => wpCode_mono hR (h Γ p e b k)
noncomputable abbrev finN (M : Model) (A : Around) (R : Result → Shared → Prop) : Fin → Shared → Prop := fun fin s' => match fin with | .done f => R (.ok f) s' | .again c' => c'.quiet = true ∧ codeN M A c' R s'
theorem cTree {c : Code} {R : Result → Shared → Prop} (hk : calm c = true) (h : wpN M (A.under c) (M.den c) (finN M A R) (fun e s' => R (.error e) s') s) : codeN M A c R s := fun Γ p e b k => by
  rw [wpCode_iff_wp, e]
  refine Sem.wp_mono M Γ _ (fun fin p' s' h' => ?_) (fun _ _ _ h' => h') p s (h Γ p (e ▸ b.in) (by rw [e]; exact hk) k)
  cases fin with
  | done f => exact h'
  | again c' => exact ⟨h'.1, h'.2 (Γ.goto c') p' rfl (b.goto c') k⟩
theorem calm_exported {Γ : Ctx} {p : Pos} {self : Value} (hc : calm Γ.code = true) (hb : calmAll Γ.below) {Q : Bool → Shared → Prop} (h : Q false s) :
    wp M Γ (Builtin.Bytes.exported self) (fun a _ s' => Q a s') (fun e _ s' => E e s') p s := by
  unfold Builtin.Bytes.exported
  show Q (((Γ.code, p) :: Γ.below).any _) s
  rw [List.any_eq_false.mpr]
  · exact h
  · intro x hx
    have hx' : calm x.1 = true := by
      rcases List.mem_cons.mp hx with rfl | hx
      · exact hc
      · exact hb x hx
    obtain ⟨c, q⟩ := x
    have key : ∀ id (ar : Args), c = .builtin id ar → guardIds.contains id = false ∧ Builtin.Bytes.decodersThatHold.contains id = false := fun id ar e => by
      rw [e] at hx'
      simpa [calm] using hx'
    split
    · exact absurd (key _ _ (congrArg Prod.fst ‹_›)).1 (by decide +kernel)
    · exact absurd (key _ _ (congrArg Prod.fst ‹_›)).1 (by decide +kernel)
    · exact absurd (key _ _ (congrArg Prod.fst ‹_›)).1 (by decide +kernel)
    · exact absurd (key _ _ (congrArg Prod.fst ‹_›)).1 (by decide +kernel)
    · exact absurd (key _ _ (congrArg Prod.fst ‹_›)).1 (by decide +kernel)
    · rw [(key _ _ (congrArg Prod.fst ‹_›)).2, Bool.and_false]; exact Bool.false_ne_true
    · exact Bool.false_ne_true
end
end Mine
end
section
open PySem PyProof.Rows
open PySem.Sem (wp)
set_option linter.unusedVariables false
set_option linter.unusedSimpArgs false
set_option maxRecDepth 100000
namespace Mine
section
variable {prog : Program} {w : World} {A : Around} {E : Value → Shared → Prop} {s : Shared}
theorem cBuiltin {id : String} {args : Args} {b : Builtin} {R : Result → Shared → Prop} (hk : (!(guardIds.contains id || Builtin.Bytes.decodersThatHold.contains id)) = true) (hb : entryFor table id = some b)
    (h : wpN (model prog w) (A.under (.builtin id args)) (b args) (finN (model prog w) A R) (fun e s' => R (.error e) s') s) : codeN (model prog w) A (.builtin id args) R s := by
  refine cTree hk ?_
  have hden : (model prog w).den (.builtin id args) = b args := by
    show (match entryFor table id with | some b => b args | none => unsupported ((withoutEnding? id "#data").getD id)) = _
    rw [hb]
  rw [hden]
  exact h
theorem nIfF {α : Type} {M : Model} {A : Around} {c : Bool} {a b : Sem α} {Q : α → Shared → Prop} {E : Value → Shared → Prop} {s : Shared} (hc : c = false) (h : wpN M A b Q E s) : wpN M A (if c = true then a else b) Q E s := by
  subst hc; exact h
theorem cTypeCall {args : List Value} {Q Q₁ : Value → Shared → Prop}
    (hct : checkTypeCall "bytearray" ⟨args, []⟩ = pure ())
    (hnew : codeAny (model prog w) A.in1 (.call (.builtin "bytearray.__new__") ⟨.type "bytearray" :: args, []⟩) (wants Q₁ E) s)
    (hnext : ∀ obj s₁, Q₁ obj s₁ → s₁.TypeIs obj "bytearray" ∧ codeN (model prog w) A.in1 (.call (.builtin "bytearray.__init__") ⟨obj :: args, []⟩) (wants (fun r s₂ => r = .none ∧ Q obj s₂) E) s₁) :
    wpN (model prog w) A (call (.type "bytearray") args) Q E s := by
  have ft := F.ba_called
  obtain ⟨c, tl, hmro⟩ := ft.mro
  have hmade := ft.made
  have hsub := ft.sub
  refine nCall (cTree rfl ?_)
  show wpN _ _ (callAny (.type "bytearray") _) _ _ _
  refine nPure ⟨Code.quiet_builtin _ (by decide +kernel), cBuiltin (by decide +kernel) PySem.F.entry_type_call ?_⟩
  rw [Around.under_plain (weight_type_call_type "bytearray" args []) (units_type_call_type "bytearray" args [])]
  have h1 := ft.notType
  have h2 := ft.canCreate
  unfold Builtin.«type.__call__»
  dsimp only
  refine nIfF h1 ?_
  refine nIfF h2 ?_
  refine nThen (wpAny_of_eq hct ?_)
  refine nThen (wpAny_of_eq hmro ?_)
  refine nIfF rfl ?_
  refine nThen (wpAny_of_eq hmade ?_)
  dsimp only
  refine nThen (wpAny_pure ?_)
  refine nThen (wpAny_holding (wpAny_call (codeAny_mono hnew fun r s₁ hr => ?_)))
  cases r with
  | error e => exact hr
  | ok fl =>
    cases fl with
    | ret obj =>
      obtain ⟨hT, hI⟩ := hnext _ _ hr
      have hli := ft.init.lookup
      have hbi := ft.init.bind obj
      refine nThen (wpAny_isInstance hT hsub ?_)
      refine nIfF rfl ?_
      refine nBind (nHold ?_)
      unfold callSpecial?
      refine nThen (wpAny_specialOf hT hli ?_)
      dsimp only
      refine nHold ?_
      refine nThen (wpAny_of_eq hbi ?_)
      dsimp only
      refine nBind (nCall (cMono hI fun r₂ s₂ hr₂ => ?_))
      cases r₂ with
      | error e => exact hr₂
      | ok fl₂ =>
        cases fl₂ with
        | ret r =>
          obtain ⟨rfl, hq⟩ := hr₂
          refine nPure ?_
          dsimp only
          exact nIfF rfl (nPure hq)
        | _ => exact hr₂.elim
    | _ => exact hr.elim
end
end Mine
end
section
open PySem PyProof.Rows
open PySem.Sem (wp)
set_option linter.unusedVariables false
set_option linter.unusedSimpArgs false
set_option maxRecDepth 100000
namespace Mine
theorem asStr_int (n : Int) (t : Tok) : asStr? (.int n t) = pure none := rfl
theorem asIndex_int (n : Int) (t : Tok) : asIndex (.int n t) = pure n := rfl
theorem int_special_eq (n : Int) (t : Tok) : specialOf (.int n t) "__index__" = pure (some (.builtin "int.__index__")) := by
  show (typeLookup (.type "int") "__index__") = _
  exact F.int_index
theorem attempt_int (n : Int) (t : Tok) : (asIndex (.int n t)).attempt = pure (.ok n) := rfl
section
variable {prog : Program} {w : World} {A : Around} {E : Value → Shared → Prop} {s : Shared}
theorem ba_own {D : Addr} {b : Array UInt8} {Q : Bool → Shared → Prop} (hD : s.heap.get? D = some (baObj b)) (h : Q false s) : wpAny (model prog w) A (Builtin.Bytes.ownRelease (.ref D)) Q E s := by
  have hT : s.TypeIs (.ref D) "bytearray" := ⟨_, hD, rfl⟩
  unfold Builtin.Bytes.ownRelease Builtin.Bytes.slotIsOwn
  refine wpAny_bind (wpAny_bind (wpAny_specialOf hT F.ba_release ?_))
  dsimp only
  refine bm_if_false (by rw [ends1]; rfl) ?_
  rw [drop1]
  exact wpAny_isInstance hT F.ba_sub (wpAny_pure h)
theorem ba_write {D : Addr} {b : Array UInt8} {f : Array UInt8 → Array UInt8} {Q : Unit → Shared → Prop} (hD : s.heap.get? D = some (baObj b)) (hz : (f b).size ≤ sizeLine)
    (h : (s.heap.update D (Obj.mapBytearray f)).get? D = some (baObj (f b)) → Q () { s with heap := s.heap.update D (Obj.mapBytearray f) }) : wpAny (model prog w) A (Builtin.Bytes.write (.ref D) f) Q E s := by
  show wpAny _ _ (updateBytearray D f) _ _ _
  unfold updateBytearray
  refine wpAny_bind (wpAny_load hD ?_)
  show wpAny _ _ (update D (Obj.mapBytearray f) >>= fun _ => lookBehind D) _ _ _
  refine wpAny_bind (wpAny_update hD ?_)
  have hS : (s.heap.update D (Obj.mapBytearray f)).get? D = some (baObj (f b)) := Heap.get?_update_self (Obj.mapBytearray f) hD rfl
  refine wpAny_lookBehind hS ?_ (h hS)
  show (if (f b).size > sizeLine then some "bytearray:memory" else none) = none
  rw [if_neg (by omega)]
theorem ba_exports {D : Addr} {b : Array UInt8} {Q : Nat → Shared → Prop} (hD : s.heap.get? D = some (baObj b)) (h : Q 0 s) : wpAny (model prog w) A (Builtin.Bytes.exportsOf (.ref D)) Q E s := by
  show wpAny _ _ (load D >>= fun o => match o.data with | .bytearray _ n => pure n | _ => pure 0) _ _ _
  exact wpAny_bind (wpAny_load hD (wpAny_pure h))
theorem nExported {self : Value} {Q : Bool → Shared → Prop} (h : Q false s) : wpN (model prog w) A (Builtin.Bytes.exported self) Q E s := fun Γ p i c b => calm_exported c b h
theorem nOr {M : Model} {x y : Sem Bool} {Q : Bool → Shared → Prop} (h : wpN M A x (fun b s' => b = false ∧ wpN M A y Q E s') E s) : wpN M A (x <||> y) Q E s := by
  show wpN M A (x >>= fun b => _) Q E s
  refine nBind (nMono h (fun b s' hb => ?_) fun _ _ e => e)
  obtain ⟨rfl, hy⟩ := hb
  exact hy
theorem ba_init {D : Addr} {k : Nat} {t : Tok} {R : Result → Shared → Prop} (hk : k ≤ 8) (hD : s.heap.get? D = some (baObj #[]))
    (h : ∀ h' tk, (∀ a o, a ≠ D → s.heap.get? a = some o → h'.get? a = some o) → h'.get? D = some (baObj (Array.replicate k 0)) → R (.ok (.ret .none)) { s with heap := h', toks := tk }) :
    codeN (model prog w) A (.call (.builtin "bytearray.__init__") ⟨[.ref D, .int k t], []⟩) R s := by
  have hT : s.TypeIs (.ref D) "bytearray" := ⟨_, hD, rfl⟩
  refine cTree rfl ?_
  show wpN _ A.in1 (do checkBuiltinCall "bytearray.__init__" ⟨[.ref D, .int k t], []⟩; again (.builtin "bytearray.__init__" ⟨[.ref D, .int k t], []⟩)) _ _ s
  refine nThen (F.ba_slot_init.check _ _ _ _ _ _ _ _ hT (F.ba_args_init _ _) ?_)
  refine nPure ⟨plainId_quiet F.ba_slot_init.plain _, cBuiltin (by decide +kernel) F.ba_entry_init ?_⟩
  rw [Around.under_plainId F.ba_slot_init.plain _]
  unfold Builtin.«bytearray.__init__»
  dsimp only
  refine nThen (ba_own hD ?_)
  refine nIfF rfl ?_
  refine nThen (wpAny_of_eq (F.ba_bind _) ?_)
  dsimp only
  have e1 : Builtin.Bytes.fitsIndex (k : Int) = true := by unfold Builtin.Bytes.fitsIndex; simp; omega
  have e2 : ¬ ((k : Int) < 0) := by omega
  have e3 : ((k : Int) == 2 ^ 63 - 1) = false := by simp; omega
  have e4 : Builtin.Bytes.tooLong (k : Int).toNat = false := by unfold Builtin.Bytes.tooLong; simp; rw [sizeLine_eq]; omega
  have c1 : Builtin.Bytes.checkCodecArg "bytearray.__init__" "bytearray" "encoding" none = pure () := rfl
  have c2 : Builtin.Bytes.checkCodecArg "bytearray.__init__" "bytearray" "errors" none = pure () := rfl
  simp only [c1, c2, asStr_int, int_special_eq, attempt_int, pure_bind, Option.isSome_none, Option.isSome_some, if_true, Bool.false_eq_true, if_false, e1, e2, e3, e4, Bool.not_true]
  refine nBind (nOr (nExported ⟨rfl, nThen (ba_exports hD (nPure ?_))⟩))
  refine nIfF rfl ?_
  refine nThen (ba_write hD (Nat.zero_le _) fun hD1 => ?_)
  refine nThen (wpAny_rule ?_)
  by_cases hz : k = 0
  · subst hz
    rw [if_neg (by omega)]
    exact nPure (h _ _ (fun a o ne e => (Heap.get?_update_other _ _ (Ne.symm ne)).trans e) hD1)
  · rw [if_pos (by omega)]
    refine nThen (ba_write hD1 (by simp; rw [sizeLine_eq]; omega) fun hD2 => ?_)
    refine nPure (h _ _ (fun a o ne e => (Heap.get?_update_other _ _ (Ne.symm ne)).trans ((Heap.get?_update_other _ _ (Ne.symm ne)).trans e)) ?_)
    simpa using hD2
/-- bytearray(k) -/
theorem call_ba {k : Nat} {t : Tok} {Q : Value → Shared → Prop} (hk : k ≤ 8)
    (h : ∀ h' tk, (∀ a o, s.heap.get? a = some o → h'.get? a = some o) → h'.get? s.heap.objs.size = some (baObj (Array.replicate k 0)) → Q (.ref s.heap.objs.size) { s with heap := h', toks := tk }) :
    wpN (model prog w) A (call (.type "bytearray") [.int k t]) Q E s := by
  refine cTypeCall (Q₁ := fun obj s₁ => obj = .ref s.heap.objs.size ∧ s₁ = { s with heap := s.heap.push (baObj #[]) }) (F.ba_typeCall _) (code_ba_new _ ⟨rfl, rfl⟩) fun obj s₁ h₁ => ?_
  obtain ⟨rfl, rfl⟩ := h₁
  have hS : (s.heap.push (baObj #[])).get? s.heap.objs.size = some (baObj #[]) := Heap.get?_push_size _ rfl
  refine ⟨⟨_, hS, rfl⟩, ba_init (s := { s with heap := s.heap.push (baObj #[]) }) hk hS fun h' tk k1 k2 => ⟨rfl, h h' tk (fun a o e => k1 a o (fun z => ?_) (Heap.get?_push_of_some _ e)) k2⟩⟩
  exact Nat.lt_irrefl _ (z ▸ Heap.lt_size e)
end
end Mine
end
section
open PySem PyProof.Rows
set_option linter.unusedVariables false
set_option linter.unusedSimpArgs false
set_option maxRecDepth 100000
namespace Mine
namespace F
theorem ba_slot_set : Slot "bytearray" "__setitem__" "bytearray.__setitem__" :=
  .of (owner := "bytearray") (n := "__setitem__") (by rw [typeLookup_type, builtinLookup_eq_fast]; kernel_rfl) (by decide +kernel) (by decide +kernel) (by decide +kernel)
    (by first | exact .inl (by decide +kernel) | exact .inr (by decide +kernel)) (by rw [isSubtype_type]; kernel_rfl)
theorem ba_entry_set : entryFor table "bytearray.__setitem__" = some Builtin.«bytearray.__setitem__» := by first | exact entryFor_of_fast (by kernel_rfl) | exact entryFor_of_tree (by kernel_rfl)
theorem ba_args_set (a b c : Value) : argsOk "bytearray.__setitem__" ⟨[a, b, c], []⟩ := by
  unfold argsOk; rw [signature?_of (id := "bytearray.__setitem__") (n := "__setitem__".toList.reverse) (o := "bytearray".toList.reverse) (by kernel_rfl) ba_owner]; kernel_rfl
end F
theorem ba_payload {s : Shared} {M : Model} {A : Around} {D : Addr} {b : Array UInt8} {Q : Array UInt8 → Shared → Prop} {E : Value → Shared → Prop} (hD : s.heap.get? D = some (baObj b)) (h : Q b s) : wpAny M A (Builtin.Bytes.payload (.ref D)) Q E s := by
  unfold Builtin.Bytes.payload Builtin.Bytes.payload?
  exact wpAny_bind (wpAny_bind (wpAny_load hD (wpAny_pure (wpAny_pure h))))
theorem ba_set {s : Shared} {prog : Program} {w : World} {A : Around} {D : Addr} {b : Array UInt8} {j : Nat} {n : Int} {t u : Tok} {Q : Unit → Shared → Prop} {E : Value → Shared → Prop} (hD : s.heap.get? D = some (baObj b)) (hj : j < b.size) (hz : b.size ≤ 8) (h0 : 0 ≤ n) (h1 : n < 256)
    (q : ∀ h', h'.get? D = some (baObj (b.setIfInBounds j n.toNat.toUInt8)) → Heap.SameBut D s.heap h' → Q () { s with heap := h' }) : wpAny (model prog w) A (setItem (.ref D) (.int (j : Int) t) (.int n u)) Q E s := by
  have hT : s.TypeIs (.ref D) "bytearray" := ⟨_, hD, rfl⟩
  unfold setItem
  try with_reducible refine wpAny_holding ?_
  first | refine wpAny_bind (wpAny_pure ?_) | skip
  refine wpAny_bind (wpAny_sequenceKey hT (by decide) ?_)
  refine wpAny_bind (wpAny_callSpecial?_slot (name := Str.ofString "__setitem__") hT F.ba_slot_set
    (wpAny_call_entry F.ba_slot_set hT F.ba_entry_set ?_ (F.ba_args_set _ _ _)))
  unfold Builtin.«bytearray.__setitem__»
  dsimp only
  have e1 : Builtin.Bytes.subscript? (.int (j : Int) t) = pure (some (j : Int)) := by
    unfold Builtin.Bytes.subscript?
    have ef : Builtin.Bytes.fitsIndex (j : Int) = true := by unfold Builtin.Bytes.fitsIndex; simp; omega
    simp only [int_special_eq, pure_bind, Option.isNone_some, Bool.false_eq_true, if_false, asIndex_int, ef, Bool.not_true]
  have e2 : Builtin.Bytes.byteValue (.int n u) = pure n.toNat.toUInt8 := by
    unfold Builtin.Bytes.byteValue
    have ef : (decide (n < 0) || decide (n ≥ 256)) = false := by simp; omega
    simp only [asIndex_int, pure_bind, ef, Bool.false_eq_true, if_false]
  simp only [e1, e2, pure_bind, List.isEmpty_nil, Bool.not_true, Bool.false_eq_true, if_false]
  refine wpAny_bind (ba_payload hD ?_)
  have hs : seqIndex? (j : Int) b.size = some j := by simp [seqIndex?]; omega
  simp only [hs]
  refine wpAny_bind (ba_write hD (by rw [Array.size_setIfInBounds, sizeLine_eq]; omega) fun hD2 => ?_)
  first
    | exact wpAny_bind (wpAny_pure (wpAny_pure ⟨.none, rfl, wpAny_pure (q _ hD2 (Heap.SameBut.update ..))⟩))
    | exact wpAny_pure ⟨.none, rfl, wpAny_pure (q _ hD2 (Heap.SameBut.update ..))⟩
end Mine
end
section
open PySem PyProof.Rows
set_option linter.unusedVariables false
set_option linter.unusedSimpArgs false
set_option maxRecDepth 100000
namespace Mine
section
variable {prog : Program} {w : World} {A : Around} {E : Value → Shared → Prop} {s : Shared}
theorem ba_slotBuf {D : Addr} {b : Array UInt8} {Q : Bool → Shared → Prop} (hD : s.heap.get? D = some (baObj b)) (h : Q true s) : wpAny (model prog w) A (Builtin.Bytes.slotIsOwn (.ref D) "__buffer__") Q E s := by
  have hT : s.TypeIs (.ref D) "bytearray" := ⟨_, hD, rfl⟩
  unfold Builtin.Bytes.slotIsOwn
  refine wpAny_bind (wpAny_specialOf hT F.ba_buffer ?_)
  dsimp only
  refine bm_if_false (by rw [ends2]; rfl) ?_
  rw [drop2]
  exact wpAny_isInstance hT F.ba_sub h
theorem ba_buffer? {D : Addr} {b : Array UInt8} {id : String} {f : Bool} {Q : Option (Array UInt8) → Shared → Prop} (hD : s.heap.get? D = some (baObj b)) (h : Q (some b) s) : wpAny (model prog w) A (Builtin.Bytes.buffer? id (.ref D) f) Q E s := by
  have hT : s.TypeIs (.ref D) "bytearray" := ⟨_, hD, rfl⟩
  unfold Builtin.Bytes.buffer?
  refine wpAny_bind (wpAny_specialOf hT F.ba_buffer ?_)
  dsimp only
  refine wpAny_bind (ba_slotBuf hD ?_)
  refine bm_if_false rfl ?_
  refine wpAny_bind (wpAny_specialOf hT F.ba_buffer ?_)
  refine wpAny_bind (ba_own hD ?_)
  refine bm_if_false rfl ?_
  exact wpAny_bind (ba_payload hD (wpAny_pure h))
theorem call_bytes_ba {D : Addr} {b : Array UInt8} {Q : Value → Shared → Prop} (hD : s.heap.get? D = some (baObj b)) (hz : b.size ≤ 8)
    (h : ∀ t tk, Q (.bytes b t) { s with toks := tk }) : wpAny (model prog w) A (call (.type "bytes") [.ref D]) Q E s := by
  have hT : s.TypeIs (.ref D) "bytearray" := ⟨_, hD, rfl⟩
  refine callType_codes (Q₁ := fun obj s₁ => s₁.TypeIs obj "bytes" ∧ Q obj s₁) PySem.F.bm_called (PySem.F.bm_typeCall _) PySem.F.entry_object_init ?_ fun obj s₁ h₁ => ⟨h₁.1, PySem.F.args_object_init_2 obj _, object_init_meets PySem.F.bm_called.init.lookup PySem.F.bm_called.made (by decide) prog w A.in1 _ s₁ ⟨h₁.1, rfl, h₁.2⟩⟩
  refine codeAny_of_tree ?_
  show wpAny _ A.in1.in1 (do checkBuiltinCall "bytes.__new__" ⟨[.type "bytes", .ref D], []⟩; again (.builtin "bytes.__new__" ⟨[.type "bytes", .ref D], []⟩)) _ _ s
  refine wpAny_bind (wpAny_of_eq (PySem.F.bm_newCall _) (wpAny_pure ⟨plainId_quiet PySem.F.bm_plain _, codeAny_builtin PySem.F.bm_entry ?_⟩))
  rw [Around.under_plainId PySem.F.bm_plain _]
  unfold Builtin.«bytes.__new__»
  refine wpAny_bind (wpAny_of_eq (a := true) rfl ?_)
  refine bm_if_false rfl ?_
  refine wpAny_bind (wpAny_of_eq PySem.F.bm_sub ?_)
  refine bm_if_false rfl ?_
  refine wpAny_bind (wpAny_of_eq (PySem.F.bm_bind _) ?_)
  refine wpAny_bind (wpAny_of_eq (a := ()) rfl ?_)
  refine wpAny_bind (wpAny_of_eq (a := ()) rfl ?_)
  refine bm_if_false rfl ?_
  refine wpAny_bind (wpAny_specialOf hT F.ba_nobytes ?_)
  refine wpAny_bind (wpAny_bind ?_)
  show wpAny _ _ (load D >>= _) _ _ _
  refine wpAny_bind (wpAny_load hD ?_)
  refine wpAny_pure (wpAny_pure ?_)
  refine bm_if_false rfl ?_
  refine wpAny_bind (wpAny_specialOf hT F.ba_noindex ?_)
  refine bm_if_true rfl ?_
  first
    | show wpAny _ _ (Builtin.Bytes.buffer? "bytes.__new__" (.ref D) true >>= _) _ _ _
    | (refine wpAny_bind ?_; show wpAny _ _ (Builtin.Bytes.buffer? "bytes.__new__" (.ref D) true >>= _) _ _ _)
  refine wpAny_bind (ba_buffer? hD ?_)
  refine wpAny_bind (wpAny_rule ?_)
  refine wpAny_bind (wpAny_mkBytes ?_ (by rw [sizeLine_eq]; omega))
  show wpAny _ _ (if (Value.type "bytes" == Value.type "bytes") = true then _ else _) _ _ _
  refine bm_if_true (by decide) ?_
  first
    | exact wpAny_pure ⟨PySem.W.typeIs_bytes _ _ _, h _ _⟩
    | exact wpAny_bind (wpAny_pure (wpAny_pure ⟨PySem.W.typeIs_bytes _ _ _, h _ _⟩))
end
end Mine
end
section
open PySem PyProof.Rows
open PySem.Sem (wp)
set_option linter.unusedVariables false
set_option linter.unusedSimpArgs false
namespace Mine
section
variable {M : Model} {A : Around} {E : Value → Shared → Prop} {s : Shared} {env : Env}
theorem nStand {p : Pos} {Q : Unit → Shared → Prop} (h : Q () s) : wpN M A (standAt p) Q E s := nOf (wpAny_standAt h)
theorem nExecsCons {st : Stmt} {rest : List Stmt} {Q : Flow → Shared → Prop} (h : wpN M A (exec st env) (fun f s' => match f with | .next => wpN M A (execs rest env) Q E s' | f => Q f s') E s) : wpN M A (execs (st :: rest) env) Q E s := fun Γ p i c b => by
  rw [execs_cons, Sem.wp_bind']
  refine Sem.wp_mono M Γ _ (fun f p' s' h' => ?_) (fun _ _ _ h' => h') _ _ (h Γ p i c b)
  cases f <;> first | exact h' Γ p' i c b | exact h'
theorem nReturn {e : Expr} {pos : Pos} {Q : Flow → Shared → Prop} (h : wpN M A (eval e env) (fun v => Q (.ret v)) E s) : wpN M A (exec (.Return (some e) pos) env) Q E s := by
  rw [exec_Return_some]
  exact nBind (nStand (nBind (nMono h (fun _ _ q => nPure q) fun _ _ x => x)))
theorem nAssign {x : Str} {p pos : Pos} {value : Expr} {Q : Flow → Shared → Prop} (h : wpN M A (eval value env) (fun v s₁ => wpAny M A (storeName env x v) (fun _ => Q .next) E s₁) E s)
    (hs : swapsWith value (some (.Name x p)) pos.line env = pure false := by rfl) : wpN M A (exec (.Assign [.Name x p] value pos) env) Q E s := by
  intro Γ p' i c b
  simp only [exec_Assign_Name env x p value pos hs, Sem.wp_bind', Sem.wp_cmd_standAt, Sem.wp_bindName, Sem.wp_pure']
  exact Sem.wp_mono M Γ _ (fun v _ s₁ h₁ => h₁ Γ _ i) (fun _ _ _ h' => h') _ _ (h Γ _ i c b)
theorem nBinOp {l r : Expr} {op : Operator} {pos : Pos} {Q : Value → Shared → Prop} (h : wpN M A (eval l env) (fun a s₁ => wpN M A (eval r env) (fun b s₂ => wpAny M A (binaryOp op a b) Q E s₂) E s₁) E s) :
    wpN M A (eval (.BinOp l op r pos) env) Q E s := by
  rw [eval_BinOp]
  refine nBind (nMono h (fun a s₁ h₁ => nBind (nHold (nMono h₁ (fun b s₂ h₂ => nBind (nStand (nOf fun Γ p i => ?_))) fun _ _ x => x))) fun _ _ x => x)
  rw [Sem.wp_operate]; exact h₂ Γ p i
theorem nCompare1 {l r : Expr} {op : CmpOp} {pos : Pos} {Q : Value → Shared → Prop} (h : wpN M A (eval l env) (fun a s₁ => wpN M A (eval r env) (fun b s₂ => wpAny M A (compareOp op a b) Q E s₂) E s₁) E s)
    (hm : behindInMarks op r = false := by rfl) : wpN M A (eval (.Compare l [op] [r] pos) env) Q E s := by
  rw [eval_Compare1, markedBehindIn_of_false hm]
  refine nBind (nMono h (fun a s₁ h₁ => nBind (nHold (nMono h₁ (fun b s₂ h₂ => nBind (nStand (nOf fun Γ p i => ?_))) fun _ _ x => x))) fun _ _ x => x)
  rw [Sem.wp_operate]; exact h₂ Γ p i
theorem nTrueCompare1 {l r : Expr} {op : CmpOp} {pos : Pos} {whole : Sem Value} {Q : Bool → Shared → Prop} (h : wpN M A (eval l env) (fun a s₁ => wpN M A (eval r env) (fun b s₂ => wpAny M A (compareOp op a b) (fun c s₃ => wpAny M A (truthy c) Q E s₃) E s₂) E s₁) E s)
    (hm : behindInMarks op r = false := by rfl) : wpN M A (isTrue (.Compare l [op] [r] pos) env whole) Q E s := by
  rw [isTrue_Compare1, markedBehindIn_of_false hm]
  refine nBind (nMono h (fun a s₁ h₁ => nBind (nHold (nMono h₁ (fun b s₂ h₂ => nBind (nStand (nOf (wpAny_bind fun Γ p i => ?_)))) fun _ _ x => x))) fun _ _ x => x)
  rw [Sem.wp_operate]
  exact wpAny_mono h₂ (fun c s₃ h₃ => wpAny_holding h₃) (fun _ _ x => x) Γ p i
theorem nSplicedNil {Q : List Value → Shared → Prop} (h : Q [] s) : wpN M A (spliced []) Q E s := nPure h
theorem nSplicedCons {x : Sem Value} {rest : List (Bool × Sem Value)} {Q : List Value → Shared → Prop} (h : wpN M A x (fun v s₁ => wpN M A (spliced rest) (fun vs s₂ => Q (v :: vs) s₂) E s₁) E s) : wpN M A (spliced ((false, x) :: rest)) Q E s := by
  rw [spliced]
  refine nBind (nMono h (fun v s₁ h₁ => ?_) fun _ _ x => x)
  simp only [Bool.false_eq_true, if_false]
  exact nBind (nPure (nBind (nHold (nMono h₁ (fun vs s₂ h₂ => nPure h₂) fun _ _ x => x))))
theorem nCallName {id : Str} {p pos : Pos} {args : List Expr} {Q : Value → Shared → Prop} (h : wpN M A (eval (.Name id p) env) (fun f s₁ => wpN M A (callWith pos f [] (backTo pos (starEach args env)) []) Q E s₁) E s) :
    wpN M A (eval (.Call (.Name id p) args [] pos) env) Q E s := by
  show wpN M A (do callWith pos (← eval (.Name id p) env) [] (backTo pos (starEach args env)) (backToKw pos (keywordEach [] env))) Q E s
  exact nBind h
end
end Mine
end
section
open PySem PyProof.Rows
open PySem.Sem (wp)
set_option linter.unusedVariables false
set_option linter.unusedSimpArgs false
namespace Mine
section
variable {M : Model} {A : Around} {E : Value → Shared → Prop} {s : Shared} {env : Env}
theorem nKeep {α : Type} {t : Sem α} {vs : List Value} {Q : α → Shared → Prop} (h : wpN M A t Q E s) : wpN M A (t.keep vs) Q E s := fun Γ p i c b => by rw [Sem.wp_keep]; exact h Γ p i c b
theorem nOperate {t : Sem Value} {vs : List Value} {Q : Value → Shared → Prop} (h : wpN M A t Q E s) : wpN M A (operate vs t) Q E s := fun Γ p i c b => by rw [Sem.wp_operate]; exact h Γ p i c b
theorem nEvalArgs {f : Value} {args : List (Bool × Sem Value)} {Q : Args → Shared → Prop} (hn : args.any (·.1) = false) (h : wpN M A (spliced args) (fun vs s' => Q ⟨vs, []⟩ s') E s) : wpN M A (evalArgs f true args []) Q E s := by
  have fin : ∀ {vs : List Value} {s' : Shared}, Q ⟨vs, []⟩ s' → wpN M A (pure (⟨vs, []⟩ : Args)) Q E s' := fun h' => nPure h'
  cases args with
  | nil =>
    unfold evalArgs
    show wpN M A (spliced [] >>= _) Q E s
    exact nBind (nMono h (fun vs s' h' => nHold (nBind (nPure (nBind (nPure (nPure h')))))) fun _ _ x => x)
  | cons a r =>
    obtain ⟨b, x⟩ := a
    rw [List.any_cons, Bool.or_eq_false_iff] at hn
    have hb : b = false := hn.1
    subst hb
    unfold evalArgs
    show wpN M A (spliced ((false, x) :: r) >>= _) Q E s
    exact nBind (nMono h (fun vs s' h' => nHold (nBind (nPure (nBind (nPure (nPure h')))))) fun _ _ x => x)
theorem nCallWith {pos : Pos} {f : Value} {args : List (Bool × Sem Value)} {Q : Value → Shared → Prop} (hn : args.any (·.1) = false)
    (h : wpN M A (spliced args) (fun vs s₁ => (∃ k, ∀ Q' : Keeper → Shared → Prop, Q' k s₁ → wpAny M A (keeperOf f) Q' E s₁) ∧ wpN M A (call f vs []) Q E s₁) E s) : wpN M A (callWith pos f [] args []) Q E s := by
  unfold callWith
  refine nBind (nHold (nEvalArgs hn (nMono h (fun vs s₁ h₁ => nBind (nStand ?_)) fun _ _ x => x)))
  obtain ⟨⟨k, hk⟩, hc⟩ := h₁
  have tail : ∀ {t : Sem Value}, wpN M A t Q E s₁ → wpN M A (t >>= fun r => holding [r] point >>= fun _ => pure r) Q E s₁ :=
    fun ht => nBind (nMono ht (fun r s₂ hr => nBind (nHold (nOf (wpAny_point (nPure hr))))) fun _ _ x => x)
  have mk : ∀ {m : Value}, wpN M A (callMarked m f ([] ++ vs) []) Q E s₁ := by intro m; unfold callMarked; exact nKeep hc
  have op : ∀ {l : List Value}, wpN M A (operate l (call f ([] ++ vs) [])) Q E s₁ := nOperate hc
  simp only [hn, List.any_nil, Bool.or_false]
  refine nThen (hk _ ?_)
  cases k <;> dsimp only <;> first
    | exact tail hc
    | exact tail mk
    | exact tail op
    | (split <;> first | exact tail hc | exact tail mk | exact tail op)
theorem nCallFun {pos : Pos} {a : Addr} {o : Obj} {fd : FuncData} {args : List (Bool × Sem Value)} {Q : Value → Shared → Prop} (hn : args.any (·.1) = false)
    (h : wpN M A (spliced args) (fun vs s₁ => (s₁.heap.get? a = some o ∧ o.data = .func fd) ∧ wpN M A (call (.ref a) vs []) Q E s₁) E s) : wpN M A (callWith pos (.ref a) [] args []) Q E s :=
  nCallWith hn (nMono h (fun vs s₁ h₁ => ⟨⟨_, fun Q' q => by
    unfold keeperOf
    refine wpAny_bind (wpAny_load h₁.1.1 ?_)
    rw [h₁.1.2]
    exact wpAny_pure q⟩, h₁.2⟩) fun _ _ x => x)
theorem nCallType {pos : Pos} {T : String} {args : List (Bool × Sem Value)} {Q : Value → Shared → Prop} (hn : args.any (·.1) = false)
    (h : wpN M A (spliced args) (fun vs s₁ => wpN M A (call (.type T) vs []) Q E s₁) E s) : wpN M A (callWith pos (.type T) [] args []) Q E s :=
  nCallWith hn (nMono h (fun vs s₁ h₁ => ⟨⟨_, fun Q' q => wpAny_pure q⟩, h₁⟩) fun _ _ x => x)
theorem nCallBuiltin {pos : Pos} {T : String} {args : List (Bool × Sem Value)} {Q : Value → Shared → Prop} (hn : args.any (·.1) = false)
    (h : wpN M A (spliced args) (fun vs s₁ => wpN M A (call (.builtin T) vs []) Q E s₁) E s) : wpN M A (callWith pos (.builtin T) [] args []) Q E s :=
  nCallWith hn (nMono h (fun vs s₁ h₁ => ⟨⟨_, fun Q' q => wpAny_pure q⟩, h₁⟩) fun _ _ x => x)
end
end Mine
end
section
open PySem PyProof.Rows
open PySem.Sem (wp)
set_option linter.unusedVariables false
set_option linter.unusedSimpArgs false
namespace Mine
section
variable {prog : Program} {w : World} {A : Around} {s : Shared} {R : Result → Shared → Prop}
theorem cFunc {body : List Stmt} {env : Env} (h : wpN (model prog w) (A.deeper env) (execs body env) (fun f s' => R (.ok (.ret (match f with | .ret v => v | _ => .none))) s') (fun e s' => False) s) :
    codeN (model prog w) A (.func body env) R s := by
  refine cTree rfl ?_
  show wpN _ (A.deeper env) (do point; match ← (execs body env).onRaise (leaving env) with | .ret v => ret v | _ => ret .none) _ _ s
  refine nThen (wpAny_point (nBind (nRaise (nMono h (fun f s' h' => ?_) fun _ _ h' => h'.elim))))
  cases f <;> exact nPure h'
theorem cCall {a : Addr} {args : Args} {o : Obj} {fd : FuncData} {body : List Stmt} (hroom : A.depth < recursionLimit) (ho : s.heap.get? a = some o)
    (hd' : o.data = .func fd) (hco : fd.scope.isCoroutine = false) (hgen : fd.scope.isGenerator = false) (hbody : fd.body = .stmts body) (hcd : s.heap.CodeRec fd.code fd.qualname)
    (h : wpAny (model prog w) A.in1 (bindArgs fd args) (fun binds s₁ => wpAny (model prog w) A.in1 (newFunctionEnv fd.scope fd.globals fd.closure binds (fd.qualname ++ ".<locals>.") (some a) fd.code none fd.builtins)
        (fun env s₂ => s₂.heap.NoLimit ∧ codeN (model prog w) A (.func body env) R s₂) (fun e s' => R (.error e) s') s₁) (fun e s' => R (.error e) s') s) :
    codeN (model prog w) A (.call (.ref a) args) R s := by
  refine cTree rfl ?_
  show wpN _ A.in1 (callAny (.ref a) args) _ _ s
  simp only [callAny]
  refine nThen (wpAny_load ho ?_)
  obtain ⟨c, oc, vs, tq, hc, hoc, hdc, hq⟩ := hcd
  simp only [hd', callFunction, hco, hgen, hbody, hc]
  rw [hc] at h
  refine nThen (m := field (.ref c) 1) (wpAny_field hoc hdc hq (nBind (nPure ?_)))
  refine nThen (wpAny_mono h (fun binds s₁ h₁ => ?_) fun _ _ e => e)
  refine nThen (wpAny_mono h₁ (fun env s₂ h₂ => ?_) fun _ _ e => e)
  exact nThen (wpAny_enterFrame h₂.1 hroom (nPure ⟨rfl, h₂.2⟩))
theorem cCallCells {a : Addr} {o : Obj} {fd : FuncData} {body : List Stmt} {vals : List Value} {binds : List (Str × Value)}
    (hroom : A.depth < recursionLimit) (ho : s.heap.get? a = some o) (hdata : o.data = .func fd) (hlim : s.heap.NoLimit) (hcd : s.heap.CodeRec fd.code fd.qualname)
    (hbody : fd.body = .stmts body) (hbind : bindArgs fd ⟨vals, []⟩ = pure binds) (hclo : fd.closure = [])
    (hkind : ∀ x ∈ binds, fd.scope.names.lookup x.1 = some .local ∨ (fd.scope.names.lookup x.1 = some .cell ∧ ((cellsFrom (s.heap.objs.size + 1) fd.scope.names []).lookup x.1).isSome = true))
    (h : ∀ s₁, InCallC s (callEnvC fd s.heap.objs.size a).locals (bindL (callEnvC fd s.heap.objs.size a).kindOf binds fun _ => none) (callEnvC fd s.heap.objs.size a).cells
        (bindC (callEnvC fd s.heap.objs.size a).kindOf binds fun _ => none) s₁ →
      wpN (model prog w) (A.deeper (callEnvC fd s.heap.objs.size a)) (execs body (callEnvC fd s.heap.objs.size a)) (fun f s' => R (.ok (.ret (match f with | .ret v => v | _ => .none))) s') (fun e s' => False) s₁)
    (hco : fd.scope.isCoroutine = false := by rfl) (hgen : fd.scope.isGenerator = false := by rfl) (hk : fd.scope.kind = .function := by rfl) :
    codeN (model prog w) A (.call (.ref a) ⟨vals, []⟩) R s := by
  refine cCall hroom ho hdata hco hgen hbody hcd ?_
  rw [hbind, hclo]
  refine wpAny_pure (wpAny_newFunctionEnv_cells hk hkind fun env he s' x => ?_)
  subst he
  exact ⟨hlim.keeps x.toInCall.keep, cFunc (h s' x)⟩
end
end Mine
end
section
open PySem PyProof.Rows
open PySem.Sem (wp)
set_option linter.unusedVariables false
set_option linter.unusedSimpArgs false
namespace Mine
section
variable {α β : Type} {M : Model} {A : Around} {E : Value → Shared → Prop} {s : Shared} {env : Env}
theorem nAttempt {t : Sem α} {Q : Except Value α → Shared → Prop} (h : wpN M A t (fun a => Q (.ok a)) (fun e => Q (.error e)) s) : wpN M A t.attempt Q E s :=
  fun Γ p i c b => by rw [Sem.wp_attempt]; exact h Γ p i c b
theorem nNoted {m : Sem α} {Q : α → Shared → Prop} (h : wpN M A m Q (notedBy M A env E) s) : wpN M A (m.onRaise fun x => do noteFrame x env; theTreesLotGoes x) Q E s :=
  nRaise (nMono h (fun _ _ q => q) fun _ _ hx => nOf (wpAny_bind (wpAny_mono hx (fun _ _ e => wpAny_theTreesLotGoes e) fun _ _ e => e)))
theorem nRunOwn {c : Code} {Q : Flow → Shared → Prop} (hc : codeN M A c (fun r s' => match r with | .ok f => Q f s' | .error e => cameBackBy M A env E e s') s) : wpN M A (runOwn c env none) Q E s := by
  unfold runOwn
  exact nRaise (nMono (nRun (h := none) (E := fun e s' => cameBackBy M A env E e s') hc (by intro x; cases x)) (fun _ _ q => q) fun _ _ x => nOf x)
theorem cLoop {c : Code} {R : Result → Shared → Prop} (hk : calm c = true) (hq : c.quiet = true) (I : Nat → Shared → Prop)
    (turn : ∀ n s, I n s → wpN M (A.under c) (M.den c)
      (fun fin s' => match fin with
        | .done f => R (.ok f) s'
        | .again c' => (c' = c ∧ ∃ m, m < n ∧ I m s') ∨ (c'.quiet = true ∧ codeN M A c' R s')) (fun e s' => R (.error e) s') s)
    (n : Nat) (h : I n s) : codeN M A c R s := by
  induction n using Nat.strongRecOn generalizing s with
  | ind n ih =>
    refine cTree hk (nMono (turn n s h) (fun fin s' hf => ?_) fun _ _ h' => h')
    cases fin with
    | done f => exact hf
    | again c' =>
      rcases hf with ⟨rfl, m, hm, hI⟩ | hf
      · exact ⟨hq, ih m hm hI⟩
      · exact hf
theorem nFor {target iter : Expr} {body orelse : List Stmt} {pos : Pos} {Q : Flow → Shared → Prop}
    (h : wpN M A (eval iter env) (fun x s₁ => wpAny M A (pyIter x) (fun it s₂ => codeN M A (.forLoop target it body orelse env) (fun r s' => match r with | .ok f => Q f s' | .error e => cameBackBy M A env E e s') s₂) E s₁) E s)
    (hs : ∀ x, foldedSetIterable iter env x = pure x) : wpN M A (exec (.For target iter body orelse pos) env) Q E s := by
  rw [exec_For]
  refine nThen (wpAny_standAt (nBind (nMono h (fun x s₁ h₁ => ?_) fun _ _ e => e)))
  exact nThen (wpAny_of_eq (hs x) (nThen (wpAny_standAt (nThen (wpAny_holding (wpAny_mono h₁ (fun it s₂ h₂ => nRunOwn h₂) fun _ _ e => e))))))
end
section
variable {prog : Program} {w : World} {A : Around} {E : Value → Shared → Prop} {s : Shared} {R : Result → Shared → Prop}
/-- a for loop; the body in calm contexts -/
theorem cForLoop {target : Expr} {it : Value} {body orelse : List Stmt} {env : Env} (I : Nat → Shared → Prop)
    (turn : ∀ n s, I n s → wpAny (model prog w) A (pyNext it) (fun r s₁ => match r with
      | none => wpAny (model prog w) A (execs orelse env) (fun f s₃ => R (.ok f) s₃) (notedBy (model prog w) A env fun e s' => R (.error e) s') s₁
      | some v => wpAny (model prog w) A (letOwnedTupleGo target it v) (fun _ s₁' =>
          wpAny (model prog w) A (assign target env v) (fun _ s₂ => wpN (model prog w) A (execs body env) (fun f s₃ => match f with
            | .next | .cont => ∃ m, m < n ∧ I m s₃
            | .brk => R (.ok .next) s₃
            | .ret v => R (.ok (.ret v)) s₃) (notedBy (model prog w) A env fun e s' => R (.error e) s') s₂) (notedBy (model prog w) A env fun e s' => R (.error e) s') s₁') (notedBy (model prog w) A env fun e s' => R (.error e) s') s₁) (notedBy (model prog w) A env fun e s' => R (.error e) s') s)
    (n : Nat) (h : I n s) : codeN (model prog w) A (.forLoop target it body orelse env) R s := by
  refine cLoop rfl rfl I (fun n s hI => ?_) n h
  show wpN _ A ((forTurn target it body orelse env).onRaise (fun x => do noteFrame x env; theTreesLotGoes x)) _ _ s
  refine nNoted ?_
  simp only [forTurn]
  refine nThen (wpAny_standAt (nThen (wpAny_onRaise (wpAny_mono (turn n s hI) (fun r s₁ h₁ => ?_) fun _ _ h' => wpAny_standAt h'))))
  cases r with
  | none => exact nPure (.inr ⟨rfl, cOf (codeAny_block h₁)⟩)
  | some v =>
    refine nThen (wpAny_mono h₁ (fun _ s₁' h₁' => nThen (wpAny_mono h₁' (fun _ s₂ h₂ => nBind (nMono h₂ (fun f s₃ h₃ => ?_) fun _ _ e => e)) fun _ _ e => e)) fun _ _ e => e)
    cases f with
    | next => exact nPure (.inl ⟨rfl, h₃⟩)
    | cont => exact nPure (.inl ⟨rfl, h₃⟩)
    | brk => exact nPure h₃
    | ret v => exact nPure h₃
/-- a comprehension's loop; the test in calm contexts -/
theorem cCompLoop {elt target iter : Expr} {ifs : List Expr} {scope : Scope} {pos : Pos} {it acc : Value} {env : Env} (I : Nat → Shared → Prop)
    (turn : ∀ n s, I n s → wpAny (model prog w) A (pyNext it) (fun r s₁ => match r with
      | none => R (.ok .next) s₁
      | some v => wpAny (model prog w) A (letOwnedTupleGo target it v) (fun _ s₁' => wpAny (model prog w) A (assign target env v) (fun _ s₂ =>
          wpN (model prog w) A (forIn ifs true fun c r => if r = true then do let ok ← isTrue c env (eval c env); pure (ForInStep.yield ok) else pure (ForInStep.yield r)) (fun ok s₃ =>
            if ok = true then wpAny (model prog w) A (eval elt env) (fun x s₄ =>
              wpAny (model prog w) A (call (.builtin "list.append") [acc, x]) (fun _ s₅ => ∃ m, m < n ∧ I m s₅) (notedBy (model prog w) A env fun e s' => R (.error e) s') s₄) (notedBy (model prog w) A env fun e s' => R (.error e) s') s₃
            else ∃ m, m < n ∧ I m s₃) (notedBy (model prog w) A env fun e s' => R (.error e) s') s₂) (notedBy (model prog w) A env fun e s' => R (.error e) s') s₁') (notedBy (model prog w) A env fun e s' => R (.error e) s') s₁) (notedBy (model prog w) A env fun e s' => R (.error e) s') s)
    (n : Nat) (h : I n s) :
    codeN (model prog w) A (.compLoop (.ListComp elt [⟨target, iter, ifs, 0⟩] scope pos) 0 it acc env) R s := by
  refine cLoop rfl rfl I (fun n s hI => ?_) n h
  show wpN _ A ((compTurn (.ListComp elt [⟨target, iter, ifs, 0⟩] scope pos) 0 it acc env).onRaise (fun x => do noteFrame x env; theTreesLotGoes x)) _ _ s
  refine nNoted ?_
  rw [compTurn_list]
  refine nThen (wpAny_standAt (nThen (wpAny_mono (turn n s hI) (fun r s₁ h₁ => ?_) fun _ _ e => e)))
  cases r with
  | none => exact nPure h₁
  | some v =>
    refine nThen (wpAny_mono h₁ (fun _ s₁' h₁' => nThen (wpAny_mono h₁' (fun _ s₂ h₂ => nBind (nMono h₂ (fun ok s₃ h₃ => ?_) fun _ _ e => e)) fun _ _ e => e)) fun _ _ e => e)
    cases ok with
    | false => exact nPure (.inl ⟨rfl, h₃⟩)
    | true => exact nThen (wpAny_bind (wpAny_mono h₃ (fun x s₄ h₄ => wpAny_bind (wpAny_mono h₄ (fun _ s₅ h₅ => wpAny_pure (nPure (.inl ⟨rfl, h₅⟩))) fun _ _ e => e)) fun _ _ e => e))
theorem cCompStart {elt target iter : Expr} {ifs : List Expr} {scope : Scope} {pos : Pos} {it acc : Value} {env : Env}
    (h0 : codeN (model prog w) A (.compLoop (.ListComp elt [⟨target, iter, ifs, 0⟩] scope pos) 0 it acc env) R s)
    (h : wpAny (model prog w) A (pyIter it) (fun it' s' => codeN (model prog w) A (.compLoop (.ListComp elt [⟨target, iter, ifs, 0⟩] scope pos) 0 it' acc env) R s') (notedBy (model prog w) A env fun x s' => R (.error x) s') s) :
    codeN (model prog w) A (.compStart (.ListComp elt [⟨target, iter, ifs, 0⟩] scope pos) 0 it acc env) R s := by
  refine cTree rfl ?_
  show wpN _ A ((compStart (.ListComp elt [⟨target, iter, ifs, 0⟩] scope pos) 0 it acc env).onRaise (fun x => do noteFrame x env; standAt theWindowsPlace)) _ _ s
  refine nRaise (E := fun e s' => R (.error e) s') (nMono (E := notedBy (model prog w) A env fun e s' => R (.error e) s') ?_ (fun _ _ q => q) fun _ _ hx => nOf (wpAny_bind (wpAny_mono hx (fun _ _ e => wpAny_standAt e) fun _ _ e => e)))
  unfold compStart
  show wpN _ _ (ask >>= _) _ _ s
  refine nThen (wpAny_askSetting ?_)
  split
  · first
      | exact nBind (nPure (nPure (And.intro rfl h0)))
      | exact nPure (And.intro rfl h0)
  · first
      | exact nThen (wpAny_rule (nThen (wpAny_standAt (nThen (wpAny_mono h (fun it' s' h' => nPure (And.intro rfl h')) fun _ _ x => x)))))
      | (refine nThen (wpAny_rule ?_); show wpN _ _ (standAt iter.pos >>= _) _ _ s; exact nThen (wpAny_standAt (nThen (wpAny_mono h (fun it' s' h' => nPure (And.intro rfl h')) fun _ _ x => x))))
end
section
variable {M : Model} {A : Around} {E : Value → Shared → Prop} {s : Shared} {env : Env}
theorem nStandIf {α : Type} {c : Prop} [Decidable c] {pos : Pos} {k : PUnit → Sem α} {Q : α → Shared → Prop} (h : wpN M A (k ()) Q E s) : wpN M A (if c then (standAt pos >>= k) else k ()) Q E s := by
  split
  · exact nThen (wpAny_standAt h)
  · exact h
/-- what is asked behind a comprehension that stores its list -/
noncomputable def nPost (M : Model) (A : Around) (E : Value → Shared → Prop) (u : Value → Sem Unit) (Q : Value → Shared → Prop) (acc : Value) (C : Addr) (r : Result) (s' : Shared) : Prop :=
  match r with
  | .ok _ => wpAny M A (u acc) (fun _ s'' => ∃ m, s''.heap.Ns C m ∧ ∀ h', Heap.SameBut C s''.heap h' → Q .none { s'' with heap := h' }) E s'
  | .error _ => False
theorem nComprehension {e : Expr} {scope : Scope} {pos : Pos} {newAcc first : Sem Value} {g : Comprehension} {gs : List Comprehension} {cl : List (Str × Addr)} {u : Value → Sem Unit}
    {Q : Value → Shared → Prop}
    (hcl : clausesOf e = g :: gs) (hs : ∀ x, foldedSetIterable g.iter env x = pure x) (hclos : closureFor scope env = pure cl)
    (hkind : scope.kind = .function) (hnames : ∀ x ∈ scope.names, x.2 = .local → scope.names.lookup x.1 = some .local)
    (h : wpN M A first (fun x s₁ => wpAny M A (pyIter x) (fun it s₂ => wpAny M A newAcc (fun acc s₃ =>
      wpAny M A (newFunctionEnv scope env.globals cl [] env.qual none .none (some env)) (fun cenv s₄ =>
        codeN M A (.compStart e 0 it acc { cenv with scope := relabel scope env }) (nPost M A E u Q acc cenv.locals) s₄) E s₃) E s₂) E s₁) E s) :
    wpN M A (comprehension e scope env pos newAcc false first (some u)) Q E s := by
  unfold comprehension
  rw [hclos, hcl]
  refine nBind (nMono h (fun x s₁ h₁ => ?_) fun _ _ e => e)
  refine nThen (wpAny_standAt (nThen (wpAny_of_eq (hs x) (nThen (wpAny_holding (wpAny_mono h₁ (fun it s₂ h₂ => ?_) fun _ _ e => e))))))
  refine nStandIf (nThen (wpAny_mono h₂ (fun acc s₃ h₃ => nThen (wpAny_pure (nThen (wpAny_mono h₃ (fun cenv s₄ h₄ => ?_) fun _ _ e => e)))) fun _ _ e => e))
  dsimp only
  have hv : ∀ x ∈ (scope.names.filter fun x => (x.2 == .local || x.2 == .cell) && x.1 != (".0" : Str)).reverse.drop 1 ++ (scope.names.filter fun x => (x.2 == .local || x.2 == .cell) && x.1 != (".0" : Str)).reverse.take 1,
      x.2 = .local → Env.kindOf { cenv with scope := relabel scope env } x.1 = some .local := fun x hx hl => by
    have hx' : x ∈ (scope.names.filter fun x => (x.2 == .local || x.2 == .cell) && x.1 != (".0" : Str)).reverse := (List.mem_append.mp hx).elim List.mem_of_mem_drop List.mem_of_mem_take
    exact lookup_relabel_local (hnames x (List.mem_filter.mp (List.mem_reverse.mp hx')).1 hl)
  refine nHold (nBind (nAttempt (nHold (nRun (h := none) (cMono h₄ fun r s' hr => ?_) (by intro x; cases x)))))
  cases r with
  | error x => exact hr.elim
  | ok f =>
    refine nThen (wpAny_rule (nThen (wpAny_holding (wpAny_mono hr (fun _ s'' hr' => ?_) fun _ _ e => e))))
    obtain ⟨m, hn, hr'⟩ := hr'
    exact nThen (wpAny_comp_letGo (cenv := { cenv with scope := relabel scope env }) hkind _ s'' m hv hn fun h' m' _ hs' => nPure (hr' h' hs'))
end
end Mine
end
section
open PySem PySem.W PyProof.Rows
open PySem.Sem (wp)
set_option linter.unusedVariables false
set_option linter.unusedSimpArgs false
namespace Mine
theorem caller_wp {M : Model} {t : Sem Fin} {R : Result → Shared → Prop} {s : Shared}
    (h : wpN M callerA t (fun fin s' => ∃ f, fin = .done f ∧ R (.ok f) s') (fun e s' => R (.error e) s') s) (p : Pos) :
    wp M ⟨.builtin "claim.caller" {}, none, none, [], none⟩ t (Sem.finPost M ⟨.builtin "claim.caller" {}, none, none, [], none⟩ R) (fun e _ s' => R (.error e) s') p s := by
  refine Sem.wp_mono M _ t (fun fin p' s' h' => ?_) (fun _ _ _ h' => h') p s (h _ p caller_in (by decide +kernel) fun x hx => (nomatch hx))
  obtain ⟨f, rfl, hf⟩ := h'
  exact hf
theorem thread_calm {prog : Program} {w : World} {t : Sem Fin} {s : Shared} {R : Result → Shared → Prop} (hreg : s.asleep)
    (h : wpN (model prog w) callerA t (fun fin s' => ∃ f, fin = .done f ∧ (R (.ok f) s' ∧ leftWithCleanup s'.gens = false)) (fun e s' => R (.error e) s' ∧ leftWithCleanup s'.gens = false) s) :
    ∃ n r s' s'', runN (denote table) prog w n s ⟨t, .builtin "claim.caller" {}, default, []⟩ = .halted (outcomeOf r) s' ∧
      schedN (denote table) prog w n (.single s ⟨t, .builtin "claim.caller" {}, default, []⟩) = .halted (outcomeOf r) s' ∧ s'.forget = s''.forget ∧ R r s'' := by
  obtain ⟨n, r, s₁, s₂, hs, hn, hfo, hR⟩ := wp_halts_full (M := model prog w) (R := R) hreg (caller_wp (R := fun r s' => R r s' ∧ leftWithCleanup s'.gens = false) h default)
  exact ⟨n, r, s₂, s₁, hn, hs, hfo, hR⟩
theorem callFrom_calm {c : ClaimW} {tree : List Value → Sem Fin} {w : World} {s : Shared} {free : Addr → Prop} {gens : Prop} {kept : Heap → Prop} (hz : s.asleep) (hgens : s.gens = #[])
    (hspec : ∀ args, c.pre args = true → WData.layableAll args = true → ∀ ord : List DictEntry → List DictEntry, (∀ l, (ord l).Perm l) →
      ∃ vs s₁, layAllW c.records (classAt s.heap) w.params ord args s = some (vs, s₁) ∧
        wpN (model c.prog w) callerA (tree vs) (fun fin s' => ∃ f, fin = .done f ∧ (c.Ends s args vs s₁ (.ok f) s' ∧ s'.os = s.os ∧ AllBare s'.gens ∧ kept s'.heap))
          (fun e s' => c.Ends s args vs s₁ (.error e) s' ∧ s'.os = s.os ∧ AllBare s'.gens ∧ kept s'.heap) s₁) :
    c.CallFrom (fun vs => ⟨tree vs, .builtin "claim.caller" {}, default, []⟩) w free gens kept s := by
  intro args hpre hlay ord hord
  obtain ⟨vs, s₁, hlaid, hcode⟩ := hspec args hpre hlay ord hord
  have hal := layAllW_rest _ _ _ hlaid
  have hcalm := thread_calm (prog := c.prog) (w := w) (t := tree vs) (s := s₁) (R := fun r s' => c.Ends s args vs s₁ r s' ∧ s'.os = s.os ∧ kept s'.heap) (Shared.asleep_of_life hal.2.2.2 hz)
    (nMono hcode (fun _ _ ⟨f, e, h1, h2, h3, h4⟩ => ⟨f, e, ⟨h1, h2, h4⟩, leftWithCleanup_false_of_bare h3⟩) fun _ _ ⟨h1, h2, h3, h4⟩ => ⟨⟨h1, h2, h4⟩, leftWithCleanup_false_of_bare h3⟩)
  obtain ⟨k, r, s', s'', hrun, hsched, hfo, hcase, hos, hkp⟩ := hcalm
  obtain ⟨eh, _, _, eo, _⟩ := Shared.forget_eq hfo
  have hcase' := hcase.congr eh
  rw [← eh] at hkp
  rw [← eo] at hos
  have hlife : s'.heap.life = s.heap.life := (runN_life _ _ _ hrun).trans hal.2.2.2
  refine ⟨vs, s₁, hlaid, k, _, s', hsched, ?_, fun _ i x hx => ?_, hkp, by rw [hlife], Shared.rest_eq hos⟩
  · rcases hcase' with ⟨v, rfl, d1, d2, d3, d4, d5⟩ | ⟨e, ob, cls, rfl, d1, d2, d3, d4, d5⟩
    · exact .inl ⟨v, rfl, d1, d2, d3, fun b o y _ => d4 b o y, d5⟩
    · exact .inr ⟨e, ob, cls, rfl, d1, d2, d3, d4, fun b o y _ => d5 b o y⟩
  · rw [hgens] at hx; simp at hx
/-- what the walk owes: the call in calm contexts -/
noncomputable abbrev WalkCalm (q : Program) (loose : List Str) (XP : (Str → Option Value) → Heap → Prop) (YP : World → Heap → Prop) (r : RowW) (d : DefRec) (kwd : List (Str × Expr)) : Prop :=
  ∀ (w : World) (s₀ s₁ : Shared) (mg mb : Str → Option Value), Ground q loose r.records XP w s₀ mg mb s₁.heap → YP w s₁.heap → ∀ (a : Addr) (o : Obj) (pm cd doc dV kV : Value), s₁.heap.get? a = some o →
    o.data = .func { Calls.docDef d.name d.params d.body d.scope pm cd doc with defaults := dV, kwdefaults := kV } → s₁.heap.CodeRec cd d.name → Dflts mg s₁.heap d.params kwd dV kV → mg d.name = some (.ref a) → s₁.gens = #[] →
    ∀ (args : List WData) (vals : List Value) (as : List Addr), r.claim.pre args = true → WData.layableAll args = true → ReadsAllW r.records (classAt s₀.heap) s₁.heap vals args as → WellAll w.params s₁.heap vals args → (∀ a ∈ as, (a == sysModules) = false) →
      wpN (model r.prog w) callerA (PySem.call (.ref a) vals) (fun v s' => GoodWG r.claim (classAt s₀.heap) (ExcName.means s₀.heap) args s₁ (.ok (.ret v)) s')
        (fun e s' => GoodWG r.claim (classAt s₀.heap) (ExcName.means s₀.heap) args s₁ (.error e) s') s₁
theorem openBy_calm {r : RowW} {q : Program} {loose defs kps : List Str} {writes : Bool} {Xt : Shared → Bool} {XP : (Str → Option Value) → Heap → Prop} {α : Type} {Yf : Shared → α} {Ya : World → α} {YP : World → Heap → Prop} {N : Nat} {d : DefRec} {kwd : List (Str × Expr)}
    (left : LeftO r.prog q loose Xt Yf Ya N) (hY : ∀ w s, Yf s = Ya w → YP w s.heap) (hYk : ∀ w h h', YP w h → (∀ b o, h.get? b = some o → h'.get? b = some o) → YP w h') (hX : ∀ s, Xt s = true → XP (s.heap.nsMap mainGlobals) s.heap) (hXk : ∀ mg h h', XP mg h → (∀ b o, h.get? b = some o → h'.get? b = some o) → XP mg h')
    (hdef : defOf q r.name = some (d, kwd)) (hRf : ∀ s, Xt s = true → RecFacts r.records s.heap) (hwr : (!writes || r.records.isEmpty) = true) (ok : (chainsOk q && opensWell r.prog && (frees r && r.within.isEmpty)) = true) (hb : r.prog.bare) (hw : r.promised)
    (pin : ∀ w s, s.heap.isNs mainGlobals = true → Ground q loose [] XP w s (s.heap.nsMap mainGlobals) (s.heap.nsMap builtinsNs) s.heap → ∀ n ∈ defs, isTheDefsW r.prog s.heap n)
    (call : WalkCalm q loose XP YP r d kwd) :
    r.claim.HoldsOpenBy (fun vs => ⟨(do match ← nsGet mainNs r.name with
      | some f => do ret (← PySem.call f vs)
      | none => unsupported "claim.caller:no-such-global"), .builtin "claim.caller" {}, default, []⟩) defs kps writes := by
  simp only [Bool.and_eq_true] at ok
  obtain ⟨⟨hch, o1⟩, k5, k6⟩ := ok
  obtain ⟨hsame, hu, ha, hap, hm⟩ := frees_parts k5
  have hi := ident_freeW hu ha hap
  have hwi : r.claim.within = [] := List.isEmpty_iff.mp k6
  refine ⟨⟨hb, o1, by show r.makers.map _ = []; rw [hm]; rfl⟩, hw.witness, fun w => ⟨(left.behind hX hch w).1, fun s' hs' => ?_⟩⟩
  obtain ⟨s₀, hf, hg0, s, hT, hz, hgens, hg, G00, y⟩ := (left.behind (XP := fun mg h => XP mg h ∧ RecFacts r.records h) (fun s hs => ⟨hX s hs, hRf s hs⟩) hch w).2 s' hs'
  have RF := G00.X.2
  have G0 : Ground q loose [] XP w s (s.heap.nsMap mainGlobals) (s.heap.nsMap builtinsNs) s.heap := { G00 with X := G00.X.1 }
  have hgens : s.gens = #[] := Array.eq_empty_of_size_eq_zero (beq_iff_eq.mp hgens)
  refine ⟨s₀, hf, hg0, s, hT, pin w s hg G0, RF.1, RF.2.1, ?_⟩
  have G : Ground q loose r.records XP w s _ _ s.heap := RF.ground G0
  refine callFrom_calm (c := r.claim) hz hgens fun args hpre hlay ord hord => ?_
  obtain ⟨⟨vs, s₁⟩, hlaid⟩ := Option.isSome_iff_exists.mp (layAllW_isSome (P := w.params) (ord := ord) G.has args r.args s (pre_splitW hpre).1)
  have keeps := layAllW_keeps _ _ _ hlaid
  have hal := layAllW_rest _ _ _ hlaid
  obtain ⟨as, hrd, hin, hold⟩ := reads_layAllW hord _ _ _ hlaid hlay s₁.heap (fun _ _ e => e)
  have L : Laid r.records w s s₁ args vs as := ⟨⟨ord, hord, hlaid⟩, hrd, hin, hold, keeps, hal.1.trans hgens, hal.2.2.1⟩
  have G₁ := G.keeps hXk keeps
  obtain ⟨a, o, pm, cd, doc, dV, kV, h1, h2, h3, h4, h5⟩ := G₁.fn hdef
  have hc := call w s s₁ _ _ G₁ (hYk _ _ _ (hY w s y) keeps) a o pm cd doc dV kV h2 h3 h4 h5 (defOf_name hdef ▸ h1) L.gens args vs as hpre hlay L.reads L.well (L.low G.low)
  refine ⟨vs, s₁, hlaid, nThen (wpAny_nsGet G₁.T.g ?_)⟩
  rw [h1]
  refine nBind (nMono hc (fun v s' g => nPure ⟨_, rfl, ?_⟩) fun e s' g => ?_)
  · have z := g.laid (c := r.claim) hsame hwi hi L
    exact ⟨z.1, z.2.1, z.2.2, fun q => ⟨namesKept_of hT hg kps keeps g.2.1.old, noTable hwr q⟩⟩
  · have z := g.laid (c := r.claim) hsame hwi hi L
    exact ⟨z.1, z.2.1, z.2.2, fun q => ⟨namesKept_of hT hg kps keeps g.2.1.old, noTable hwr q⟩⟩
end Mine
end
section
open PySem PySem.W PyProof.Rows
set_option linter.unusedVariables false
set_option Elab.async false
namespace Mine
noncomputable def ent (P : Params) (k : Str) (t : Tok) (v : Value) : DictEntry := ⟨PyData.keyHash P k, .str k t, v⟩
/-- what stands behind the name __loader__ from the start -/
noncomputable def ldr (P : Params) : Value := match (boot_o_3 P).data with | .dict es _ => ((es[3]?).map (·.val)).getD .none | _ => .none
noncomputable def cdat (nm qual : Str) (t1 t2 t3 : Tok) (line args fl : Int) (c1 : Addr) (opt : Bool) (k : Int) (c2 : Addr) (c3 c4 c5 : Value) (t4 : Int) (t5 : Tok) : Obj :=
  ⟨.type "code", none, .fields #[.str nm t1, .str qual t2, .str "/claim/cut.py" t3, .int line 0, .int args 0, .int 0 0, .int 0 0, .int fl 0, .ref c1, .bool opt, .int k 0, .ref c2, .none, c3, c4, c5, .int t4 0, .int line 0, .str "/claim/cut.py" t5], #[]⟩
noncomputable def fdat (nm qual : Str) (ps : Arguments) (b : List Stmt) (sc : Scope) (g : Addr) (d kd doc md cd ct : Value) : FuncData :=
  { name := nm, qualname := qual, params := ps, body := .stmts b, scope := sc, globals := g, closure := [], defaults := d, kwdefaults := kd, doc := doc, pyModule := md, code := cd, closureTuple := ct }
noncomputable def ob11 : Obj := ⟨(.type "tuple"), none, (.seq #[] 0), #[]⟩
noncomputable def ob12 : Obj := ⟨.none, none, (.fields #[]), #[]⟩
noncomputable def ob13 : Obj := cdat "<module>" "<module>" 182 183 184 1 0 0 11 false 181 12 .none .none .none 185 186
noncomputable def ob14 : Obj := ⟨(.type "frame"), none, .plain, #[some (.ref 13), some (.ref 3), some (.ref 3), none, some (.str "__main__" 164), none, some (.ref 0)]⟩
noncomputable def ob3v1 (P : Params) : Obj := ⟨(.type "dict"), none, (.dict #[ent P "__name__" 165 (.str "quic.errors" 194), ent P "__doc__" 166 .none, ent P "__package__" 167 .none, ent P "__loader__" 168 (ldr P), ent P "__spec__" 169 .none, ent P "__annotations__" 170 (.ref 6), ent P "__builtins__" 171 (.ref 4), ent P "__file__" 173 (.str "/claim/cut.py" 172), ent P "__cached__" 174 .none, ent P "_wall" 193 (.ref 21), ent P "INTERNAL_ERROR" 197 (.int 1 196), ent P "FRAME_ENCODING_ERROR" 199 (.int 7 198)] 12), #[]⟩
noncomputable def ob12v1 (P : Params) : Obj := ⟨.none, none, (.fields #[(.int 1 0), (.int 0 0), (.ref 20)]), #[]⟩
noncomputable def ob17 : Obj := ⟨(.type "tuple"), none, (.seq #[(.str "k" 190)] 0), #[]⟩
noncomputable def ob19 : Obj := ⟨.none, none, (.func (fdat "_wall" "_wall" (dP 0) (dB 0) (dS 0) 0 .none .none .none .none .none .none)), #[]⟩
noncomputable def ob20 : Obj := cdat "_wall" "_wall" 187 188 189 1 1 3 15 true 181 16 (.ref 17) (.ref 18) (.ref 19) 191 192
noncomputable def ob21 : Obj := ⟨(.type "function"), none, (.func (fdat "_wall" "_wall" (dP 0) (dB 0) (dS 0) 3 .none .none .none (.str "__main__" 164) (.ref 20) .none)), #[]⟩
noncomputable def ob2v1 (P : Params) : Obj := ⟨.none, none, (.dict #[ent P "type.__subclasses__.Exception.0" 229 (.int 38 0), ent P "type.__subclasses__.Exception.n" 230 (.int 1 0)] 2), #[]⟩
noncomputable def ob3v2 (P : Params) : Obj := ⟨(.type "dict"), none, (.dict #[ent P "__name__" 165 (.str "quic.errors" 194), ent P "__doc__" 166 .none, ent P "__package__" 167 .none, ent P "__loader__" 168 (ldr P), ent P "__spec__" 169 .none, ent P "__annotations__" 170 (.ref 6), ent P "__builtins__" 171 (.ref 4), ent P "__file__" 173 (.str "/claim/cut.py" 172), ent P "__cached__" 174 .none, ent P "_wall" 193 (.ref 21), ent P "INTERNAL_ERROR" 197 (.int 1 196), ent P "FRAME_ENCODING_ERROR" 199 (.int 7 198), ent P "QuicError" 232 (.ref 38)] 13), #[]⟩
noncomputable def ob12v2 (P : Params) : Obj := ⟨.none, none, (.fields #[(.int 1 0), (.int 0 0), (.ref 20), (.int 7 0), (.int 0 0), (.ref 27)]), #[]⟩
noncomputable def ob22 : Obj := ⟨(.type "tuple"), none, (.seq #[(.type "Exception")] 0), #[]⟩
noncomputable def ob23 : Obj := ⟨(.type "builtin_function_or_method"), none, (.fields #[(.builtin "type.__prepare__"), (.type "type")]), #[]⟩
noncomputable def ob24 (P : Params) : Obj := ⟨(.type "dict"), none, (.dict #[ent P "__module__" 207 (.str "quic.errors" 194), ent P "__qualname__" 209 (.str "QuicError" 208), ent P "__firstlineno__" 211 (.int 7 210), ent P "__init__" 221 (.ref 35), ent P "__static_attributes__" 225 (.ref 36)] 5), #[]⟩
noncomputable def ob26 : Obj := ⟨.none, none, (.fields #[(.int 9 0), (.int 4 0), (.ref 34)]), #[]⟩
noncomputable def ob27 : Obj := cdat "QuicError" "QuicError" 202 203 204 7 0 0 25 false 181 26 .none .none .none 205 206
noncomputable def ob28 : Obj := ⟨(.type "frame"), none, .plain, #[some (.ref 27), some (.ref 3), some (.ref 24), none, some (.str "quic.errors" 194), none, some (.ref 0)]⟩
noncomputable def ob31 : Obj := ⟨(.type "tuple"), none, (.seq #[(.str "self" 215), (.str "code" 216), (.str "frame_type" 217), (.str "text" 218)] 0), #[]⟩
noncomputable def ob33 : Obj := ⟨.none, none, (.func (fdat "__init__" "QuicError.__init__" (mP 4 0) (mB 4 0) (mS 4 0) 0 .none .none .none .none .none .none)), #[]⟩
noncomputable def ob34 : Obj := cdat "__init__" "QuicError.__init__" 212 213 214 9 4 3 29 true 181 30 (.ref 31) (.ref 32) (.ref 33) 219 220
noncomputable def ob35 : Obj := ⟨(.type "function"), none, (.func (fdat "__init__" "QuicError.__init__" (mP 4 0) (mB 4 0) (mS 4 0) 3 .none .none .none (.str "quic.errors" 194) (.ref 34) .none)), #[]⟩
noncomputable def ob36 : Obj := ⟨(.type "tuple"), none, (.seq #[(.str "code" 222), (.str "frame_type" 223), (.str "text" 224)] 0), #[]⟩
noncomputable def ob37 (P : Params) : Obj := ⟨(.type "dict"), none, (.dict #[ent P "__module__" 207 (.str "quic.errors" 194), ent P "__firstlineno__" 211 (.int 7 210), ent P "__init__" 221 (.ref 35), ent P "__static_attributes__" 225 (.ref 36), ent P "__weakref__" 227 (.ref 39), ent P "__doc__" 228 .none] 3), #[]⟩
noncomputable def ob38 : Obj := ⟨(.type "type"), none, (.cls { name := "QuicError", bases := [(.type "Exception")], mro := [(.ref 38), (.type "Exception"), (.type "BaseException"), (.type "object")], ns := 37, qualname := "QuicError", hasDict := true, slotNames := [], subclasses := [], abstract := false, collection := none, hasDel := false }), #[some (.ref 22), none, some (.str "QuicError" 200), some (.str "QuicError" 208), some (.builtin "Exception.__new__"), some (.bool true)]⟩
noncomputable def ob39 : Obj := ⟨(.type "getset_descriptor"), none, (.fields #[(.str "__weakref__" 226), (.ref 38), (.builtin "ExceptionGroup.__weakref__"), .none]), #[]⟩
noncomputable def ob40 : Obj := ⟨(.type "super"), none, (.fields #[(.ref 38), (.ref 38), (.ref 38)]), #[]⟩
noncomputable def ob41 : Obj := ⟨(.type "builtin_function_or_method"), none, (.fields #[(.builtin "object.__init_subclass__"), (.ref 38)]), #[]⟩
noncomputable def ob2v2 (P : Params) : Obj := ⟨.none, none, (.dict #[ent P "type.__subclasses__.Exception.0" 229 (.int 38 0), ent P "type.__subclasses__.Exception.n" 230 (.int 2 0), ent P "type.__subclasses__.Exception.1" 258 (.int 58 0)] 3), #[]⟩
noncomputable def ob3v3 (P : Params) : Obj := ⟨(.type "dict"), none, (.dict #[ent P "__name__" 165 (.str "quic.errors" 194), ent P "__doc__" 166 .none, ent P "__package__" 167 .none, ent P "__loader__" 168 (ldr P), ent P "__spec__" 169 .none, ent P "__annotations__" 170 (.ref 6), ent P "__builtins__" 171 (.ref 4), ent P "__file__" 173 (.str "/claim/cut.py" 172), ent P "__cached__" 174 .none, ent P "_wall" 193 (.ref 21), ent P "INTERNAL_ERROR" 197 (.int 1 196), ent P "FRAME_ENCODING_ERROR" 199 (.int 7 198), ent P "QuicError" 232 (.ref 38), ent P "Short" 261 (.ref 58)] 14), #[]⟩
noncomputable def ob12v3 (P : Params) : Obj := ⟨.none, none, (.fields #[(.int 1 0), (.int 0 0), (.ref 20), (.int 7 0), (.int 0 0), (.ref 27), (.int 14 0), (.int 0 0), (.ref 47)]), #[]⟩
noncomputable def ob44 (P : Params) : Obj := ⟨(.type "dict"), none, (.dict #[ent P "__module__" 240 (.str "quic.errors" 194), ent P "__qualname__" 242 (.str "Short" 241), ent P "__firstlineno__" 244 (.int 14 243), ent P "__init__" 252 (.ref 55), ent P "__static_attributes__" 254 (.ref 56)] 5), #[]⟩
noncomputable def ob46 : Obj := ⟨.none, none, (.fields #[(.int 16 0), (.int 4 0), (.ref 54)]), #[]⟩
noncomputable def ob47 : Obj := cdat "Short" "Short" 235 236 237 14 0 0 45 false 181 46 .none .none .none 238 239
noncomputable def ob48 : Obj := ⟨(.type "frame"), none, .plain, #[some (.ref 47), some (.ref 3), some (.ref 44), none, some (.str "quic.errors" 194), none, some (.ref 0)]⟩
noncomputable def ob51 : Obj := ⟨(.type "tuple"), none, (.seq #[(.str "self" 248), (.str "text" 249)] 0), #[]⟩
noncomputable def ob53 : Obj := ⟨.none, none, (.func (fdat "__init__" "Short.__init__" (mP 5 0) (mB 5 0) (mS 5 0) 0 .none .none .none .none .none .none)), #[]⟩
noncomputable def ob54 : Obj := cdat "__init__" "Short.__init__" 245 246 247 16 2 3 49 true 181 50 (.ref 51) (.ref 52) (.ref 53) 250 251
noncomputable def ob55 : Obj := ⟨(.type "function"), none, (.func (fdat "__init__" "Short.__init__" (mP 5 0) (mB 5 0) (mS 5 0) 3 .none .none .none (.str "quic.errors" 194) (.ref 54) .none)), #[]⟩
noncomputable def ob56 : Obj := ⟨(.type "tuple"), none, (.seq #[(.str "text" 253)] 0), #[]⟩
noncomputable def ob57 (P : Params) : Obj := ⟨(.type "dict"), none, (.dict #[ent P "__module__" 240 (.str "quic.errors" 194), ent P "__firstlineno__" 244 (.int 14 243), ent P "__init__" 252 (.ref 55), ent P "__static_attributes__" 254 (.ref 56), ent P "__weakref__" 256 (.ref 59), ent P "__doc__" 257 .none] 3), #[]⟩
noncomputable def ob58 : Obj := ⟨(.type "type"), none, (.cls { name := "Short", bases := [(.type "Exception")], mro := [(.ref 58), (.type "Exception"), (.type "BaseException"), (.type "object")], ns := 57, qualname := "Short", hasDict := true, slotNames := [], subclasses := [], abstract := false, collection := none, hasDel := false }), #[some (.ref 42), none, some (.str "Short" 233), some (.str "Short" 241), some (.builtin "Exception.__new__"), some (.bool true)]⟩
noncomputable def ob59 : Obj := ⟨(.type "getset_descriptor"), none, (.fields #[(.str "__weakref__" 255), (.ref 58), (.builtin "ExceptionGroup.__weakref__"), .none]), #[]⟩
noncomputable def ob60 : Obj := ⟨(.type "super"), none, (.fields #[(.ref 58), (.ref 58), (.ref 58)]), #[]⟩
noncomputable def ob61 : Obj := ⟨(.type "builtin_function_or_method"), none, (.fields #[(.builtin "object.__init_subclass__"), (.ref 58)]), #[]⟩
noncomputable def ob3v4 (P : Params) : Obj := ⟨(.type "dict"), none, (.dict #[ent P "__name__" 165 (.str "quic.octets" 376), ent P "__doc__" 166 .none, ent P "__package__" 167 .none, ent P "__loader__" 168 (ldr P), ent P "__spec__" 169 .none, ent P "__annotations__" 170 (.ref 6), ent P "__builtins__" 171 (.ref 4), ent P "__file__" 173 (.str "/claim/cut.py" 172), ent P "__cached__" 174 .none, ent P "_wall" 193 (.ref 21), ent P "INTERNAL_ERROR" 197 (.int 1 196), ent P "FRAME_ENCODING_ERROR" 199 (.int 7 198), ent P "QuicError" 232 (.ref 38), ent P "Short" 261 (.ref 58), ent P "VARINT_SIZES" 268 (.ref 62), ent P "put_whole" 278 (.ref 69), ent P "get_whole" 289 (.ref 76), ent P "varint_size" 297 (.ref 83), ent P "put_varint" 306 (.ref 90), ent P "get_varint" 315 (.ref 97), ent P "ACK_TYPE" 319 (.int 2 318), ent P "gaps_of" 331 (.ref 104), ent P "ranges_of" 344 (.ref 111), ent P "put_ranges" 358 (.ref 118), ent P "fitting" 375 (.ref 125)] 25), #[]⟩
noncomputable def ob12v4 (P : Params) : Obj := ⟨.none, none, (.fields #[(.int 1 0), (.int 0 0), (.ref 20), (.int 7 0), (.int 0 0), (.ref 27), (.int 14 0), (.int 0 0), (.ref 47), (.int 21 0), (.int 0 0), (.ref 68), (.int 29 0), (.int 0 0), (.ref 75), (.int 36 0), (.int 0 0), (.ref 82), (.int 41 0), (.int 0 0), (.ref 89), (.int 48 0), (.int 0 0), (.ref 96), (.int 55 0), (.int 0 0), (.ref 103), (.int 62 0), (.int 0 0), (.ref 110), (.int 72 0), (.int 0 0), (.ref 117), (.int 78 0), (.int 0 0), (.ref 124)]), #[]⟩
noncomputable def ob62 : Obj := ⟨(.type "tuple"), none, (.seq #[(.int 1 264), (.int 2 265), (.int 4 266), (.int 8 267)] 0), #[]⟩
noncomputable def ob65 : Obj := ⟨(.type "tuple"), none, (.seq #[(.str "n" 272), (.str "size" 273), (.str "found" 274), (.str "place" 275)] 0), #[]⟩
noncomputable def ob67 : Obj := ⟨.none, none, (.func (fdat "put_whole" "put_whole" (dP 8) (dB 8) (dS 8) 0 .none .none .none .none .none .none)), #[]⟩
noncomputable def ob68 : Obj := cdat "put_whole" "put_whole" 269 270 271 21 2 3 63 true 181 64 (.ref 65) (.ref 66) (.ref 67) 276 277
noncomputable def ob69 : Obj := ⟨(.type "function"), none, (.func (fdat "put_whole" "put_whole" (dP 8) (dB 8) (dS 8) 3 .none .none .none (.str "quic.varint" 262) (.ref 68) .none)), #[]⟩
noncomputable def ob72 : Obj := ⟨(.type "tuple"), none, (.seq #[(.str "data" 282), (.str "at" 283), (.str "size" 284), (.str "found" 285), (.str "octet" 286)] 0), #[]⟩
noncomputable def ob74 : Obj := ⟨.none, none, (.func (fdat "get_whole" "get_whole" (dP 9) (dB 9) (dS 9) 0 .none .none .none .none .none .none)), #[]⟩
noncomputable def ob75 : Obj := cdat "get_whole" "get_whole" 279 280 281 29 3 3 70 true 181 71 (.ref 72) (.ref 73) (.ref 74) 287 288
noncomputable def ob76 : Obj := ⟨(.type "function"), none, (.func (fdat "get_whole" "get_whole" (dP 9) (dB 9) (dS 9) 3 .none .none .none (.str "quic.varint" 262) (.ref 75) .none)), #[]⟩
noncomputable def ob79 : Obj := ⟨(.type "tuple"), none, (.seq #[(.str "n" 293), (.str "size" 294)] 0), #[]⟩
noncomputable def ob81 : Obj := ⟨.none, none, (.func (fdat "varint_size" "varint_size" (dP 10) (dB 10) (dS 10) 0 .none .none .none .none .none .none)), #[]⟩
noncomputable def ob82 : Obj := cdat "varint_size" "varint_size" 290 291 292 36 1 3 77 true 181 78 (.ref 79) (.ref 80) (.ref 81) 295 296
noncomputable def ob83 : Obj := ⟨(.type "function"), none, (.func (fdat "varint_size" "varint_size" (dP 10) (dB 10) (dS 10) 3 .none .none .none (.str "quic.varint" 262) (.ref 82) .none)), #[]⟩
noncomputable def ob86 : Obj := ⟨(.type "tuple"), none, (.seq #[(.str "n" 301), (.str "size" 302), (.str "least" 303)] 0), #[]⟩
noncomputable def ob88 : Obj := ⟨.none, none, (.func (fdat "put_varint" "put_varint" (dP 11) (dB 11) (dS 11) 0 .none .none .none .none .none .none)), #[]⟩
noncomputable def ob89 : Obj := cdat "put_varint" "put_varint" 298 299 300 41 2 3 84 true 181 85 (.ref 86) (.ref 87) (.ref 88) 304 305
noncomputable def ob90 : Obj := ⟨(.type "function"), none, (.func (fdat "put_varint" "put_varint" (dP 11) (dB 11) (dS 11) 3 .none .none .none (.str "quic.varint" 262) (.ref 89) .none)), #[]⟩
noncomputable def ob93 : Obj := ⟨(.type "tuple"), none, (.seq #[(.str "data" 310), (.str "at" 311), (.str "size" 312)] 0), #[]⟩
noncomputable def ob95 : Obj := ⟨.none, none, (.func (fdat "get_varint" "get_varint" (dP 12) (dB 12) (dS 12) 0 .none .none .none .none .none .none)), #[]⟩
noncomputable def ob96 : Obj := cdat "get_varint" "get_varint" 307 308 309 48 2 3 91 true 181 92 (.ref 93) (.ref 94) (.ref 95) 313 314
noncomputable def ob97 : Obj := ⟨(.type "function"), none, (.func (fdat "get_varint" "get_varint" (dP 12) (dB 12) (dS 12) 3 .none .none .none (.str "quic.varint" 262) (.ref 96) .none)), #[]⟩
noncomputable def ob100 : Obj := ⟨(.type "tuple"), none, (.seq #[(.str "ranges" 323), (.str "low" 324), (.str "high" 325), (.str "found" 326), (.str "before" 327), (.str "one" 328)] 0), #[]⟩
noncomputable def ob102 : Obj := ⟨.none, none, (.func (fdat "gaps_of" "gaps_of" (dP 15) (dB 15) (dS 15) 0 .none .none .none .none .none .none)), #[]⟩
noncomputable def ob103 : Obj := cdat "gaps_of" "gaps_of" 320 321 322 55 1 3 98 true 181 99 (.ref 100) (.ref 101) (.ref 102) 329 330
noncomputable def ob104 : Obj := ⟨(.type "function"), none, (.func (fdat "gaps_of" "gaps_of" (dP 15) (dB 15) (dS 15) 3 .none .none .none (.str "quic.ackform" 316) (.ref 103) .none)), #[]⟩
noncomputable def ob107 : Obj := ⟨(.type "tuple"), none, (.seq #[(.str "largest" 335), (.str "first" 336), (.str "pairs" 337), (.str "found" 338), (.str "gap" 339), (.str "size" 340), (.str "high" 341)] 0), #[]⟩
noncomputable def ob109 : Obj := ⟨.none, none, (.func (fdat "ranges_of" "ranges_of" (dP 16) (dB 16) (dS 16) 0 .none .none .none .none .none .none)), #[]⟩
noncomputable def ob110 : Obj := cdat "ranges_of" "ranges_of" 332 333 334 62 3 3 105 true 181 106 (.ref 107) (.ref 108) (.ref 109) 342 343
noncomputable def ob111 : Obj := ⟨(.type "function"), none, (.func (fdat "ranges_of" "ranges_of" (dP 16) (dB 16) (dS 16) 3 .none .none .none (.str "quic.ackform" 316) (.ref 110) .none)), #[]⟩
noncomputable def ob114 : Obj := ⟨(.type "tuple"), none, (.seq #[(.str "delay" 348), (.str "ranges" 349), (.str "largest" 350), (.str "first" 351), (.str "pairs" 352), (.str "found" 353), (.str "gap" 354), (.str "size" 355)] 0), #[]⟩
noncomputable def ob116 : Obj := ⟨.none, none, (.func (fdat "put_ranges" "put_ranges" (dP 17) (dB 17) (dS 17) 0 .none .none .none .none .none .none)), #[]⟩
noncomputable def ob117 : Obj := cdat "put_ranges" "put_ranges" 345 346 347 72 2 3 112 true 181 113 (.ref 114) (.ref 115) (.ref 116) 356 357
noncomputable def ob118 : Obj := ⟨(.type "function"), none, (.func (fdat "put_ranges" "put_ranges" (dP 17) (dB 17) (dS 17) 3 .none .none .none (.str "quic.ackform" 316) (.ref 117) .none)), #[]⟩
noncomputable def ob121 : Obj := ⟨(.type "tuple"), none, (.seq #[(.str "delay" 362), (.str "ranges" 363), (.str "room" 364), (.str "largest" 365), (.str "first" 366), (.str "pairs" 367), (.str "used" 368), (.str "many" 369), (.str "size" 370), (.str "gap" 371), (.str "length" 372)] 0), #[]⟩
noncomputable def ob123 : Obj := ⟨.none, none, (.func (fdat "fitting" "fitting" (dP 18) (dB 18) (dS 18) 0 .none .none .none .none .none .none)), #[]⟩
noncomputable def ob124 : Obj := cdat "fitting" "fitting" 359 360 361 78 3 3 119 true 181 120 (.ref 121) (.ref 122) (.ref 123) 373 374
noncomputable def ob125 : Obj := ⟨(.type "function"), none, (.func (fdat "fitting" "fitting" (dP 18) (dB 18) (dS 18) 3 .none .none .none (.str "quic.ackform" 316) (.ref 124) .none)), #[]⟩
noncomputable def ob3v5 (P : Params) : Obj := ⟨(.type "dict"), none, (.dict #[ent P "__name__" 165 (.str "quic.octets" 376), ent P "__doc__" 166 .none, ent P "__package__" 167 .none, ent P "__loader__" 168 (ldr P), ent P "__spec__" 169 .none, ent P "__annotations__" 170 (.ref 6), ent P "__builtins__" 171 (.ref 4), ent P "__file__" 173 (.str "/claim/cut.py" 172), ent P "__cached__" 174 .none, ent P "_wall" 193 (.ref 21), ent P "INTERNAL_ERROR" 197 (.int 1 196), ent P "FRAME_ENCODING_ERROR" 199 (.int 7 198), ent P "QuicError" 232 (.ref 38), ent P "Short" 261 (.ref 58), ent P "VARINT_SIZES" 268 (.ref 62), ent P "put_whole" 278 (.ref 69), ent P "get_whole" 289 (.ref 76), ent P "varint_size" 297 (.ref 83), ent P "put_varint" 306 (.ref 90), ent P "get_varint" 315 (.ref 97), ent P "ACK_TYPE" 319 (.int 2 318), ent P "gaps_of" 331 (.ref 104), ent P "ranges_of" 344 (.ref 111), ent P "put_ranges" 358 (.ref 118), ent P "fitting" 375 (.ref 125), ent P "Reader" 446 (.ref 177)] 26), #[]⟩
noncomputable def ob12v5 (P : Params) : Obj := ⟨.none, none, (.fields #[(.int 1 0), (.int 0 0), (.ref 20), (.int 7 0), (.int 0 0), (.ref 27), (.int 14 0), (.int 0 0), (.ref 47), (.int 21 0), (.int 0 0), (.ref 68), (.int 29 0), (.int 0 0), (.ref 75), (.int 36 0), (.int 0 0), (.ref 82), (.int 41 0), (.int 0 0), (.ref 89), (.int 48 0), (.int 0 0), (.ref 96), (.int 55 0), (.int 0 0), (.ref 103), (.int 62 0), (.int 0 0), (.ref 110), (.int 72 0), (.int 0 0), (.ref 117), (.int 78 0), (.int 0 0), (.ref 124), (.int 91 0), (.int 0 0), (.ref 131)]), #[]⟩
noncomputable def ob128 (P : Params) : Obj := ⟨(.type "dict"), none, (.dict #[ent P "__module__" 385 (.str "quic.octets" 376), ent P "__qualname__" 387 (.str "Reader" 386), ent P "__firstlineno__" 389 (.int 91 388), ent P "__init__" 397 (.ref 139), ent P "left" 404 (.ref 146), ent P "take" 412 (.ref 153), ent P "rest" 419 (.ref 160), ent P "whole" 428 (.ref 167), ent P "varint" 436 (.ref 174), ent P "__static_attributes__" 439 (.ref 175)] 10), #[]⟩
noncomputable def ob130 : Obj := ⟨.none, none, (.fields #[(.int 93 0), (.int 4 0), (.ref 138), (.int 97 0), (.int 4 0), (.ref 145), (.int 100 0), (.int 4 0), (.ref 152), (.int 103 0), (.int 4 0), (.ref 159), (.int 106 0), (.int 4 0), (.ref 166), (.int 111 0), (.int 4 0), (.ref 173)]), #[]⟩
noncomputable def ob131 : Obj := cdat "Reader" "Reader" 380 381 382 91 0 0 129 false 181 130 .none .none .none 383 384
noncomputable def ob132 : Obj := ⟨(.type "frame"), none, .plain, #[some (.ref 131), some (.ref 3), some (.ref 128), none, some (.str "quic.octets" 376), none, some (.ref 0)]⟩
noncomputable def ob135 : Obj := ⟨(.type "tuple"), none, (.seq #[(.str "self" 393), (.str "data" 394)] 0), #[]⟩
noncomputable def ob137 : Obj := ⟨.none, none, (.func (fdat "__init__" "Reader.__init__" (mP 20 0) (mB 20 0) (mS 20 0) 0 .none .none .none .none .none .none)), #[]⟩
noncomputable def ob138 : Obj := cdat "__init__" "Reader.__init__" 390 391 392 93 2 3 133 true 181 134 (.ref 135) (.ref 136) (.ref 137) 395 396
noncomputable def ob139 : Obj := ⟨(.type "function"), none, (.func (fdat "__init__" "Reader.__init__" (mP 20 0) (mB 20 0) (mS 20 0) 3 .none .none .none (.str "quic.octets" 376) (.ref 138) .none)), #[]⟩
noncomputable def ob142 : Obj := ⟨(.type "tuple"), none, (.seq #[(.str "self" 401)] 0), #[]⟩
noncomputable def ob144 : Obj := ⟨.none, none, (.func (fdat "left" "Reader.left" (mP 20 1) (mB 20 1) (mS 20 1) 0 .none .none .none .none .none .none)), #[]⟩
noncomputable def ob145 : Obj := cdat "left" "Reader.left" 398 399 400 97 1 3 140 true 181 141 (.ref 142) (.ref 143) (.ref 144) 402 403
noncomputable def ob146 : Obj := ⟨(.type "function"), none, (.func (fdat "left" "Reader.left" (mP 20 1) (mB 20 1) (mS 20 1) 3 .none .none .none (.str "quic.octets" 376) (.ref 145) .none)), #[]⟩
noncomputable def ob149 : Obj := ⟨(.type "tuple"), none, (.seq #[(.str "self" 408), (.str "many" 409)] 0), #[]⟩
noncomputable def ob151 : Obj := ⟨.none, none, (.func (fdat "take" "Reader.take" (mP 20 2) (mB 20 2) (mS 20 2) 0 .none .none .none .none .none .none)), #[]⟩
noncomputable def ob152 : Obj := cdat "take" "Reader.take" 405 406 407 100 2 3 147 true 181 148 (.ref 149) (.ref 150) (.ref 151) 410 411
noncomputable def ob153 : Obj := ⟨(.type "function"), none, (.func (fdat "take" "Reader.take" (mP 20 2) (mB 20 2) (mS 20 2) 3 .none .none .none (.str "quic.octets" 376) (.ref 152) .none)), #[]⟩
noncomputable def ob156 : Obj := ⟨(.type "tuple"), none, (.seq #[(.str "self" 416)] 0), #[]⟩
noncomputable def ob158 : Obj := ⟨.none, none, (.func (fdat "rest" "Reader.rest" (mP 20 3) (mB 20 3) (mS 20 3) 0 .none .none .none .none .none .none)), #[]⟩
noncomputable def ob159 : Obj := cdat "rest" "Reader.rest" 413 414 415 103 1 3 154 true 181 155 (.ref 156) (.ref 157) (.ref 158) 417 418
noncomputable def ob160 : Obj := ⟨(.type "function"), none, (.func (fdat "rest" "Reader.rest" (mP 20 3) (mB 20 3) (mS 20 3) 3 .none .none .none (.str "quic.octets" 376) (.ref 159) .none)), #[]⟩
noncomputable def ob163 : Obj := ⟨(.type "tuple"), none, (.seq #[(.str "self" 423), (.str "size" 424), (.str "found" 425)] 0), #[]⟩
noncomputable def ob165 : Obj := ⟨.none, none, (.func (fdat "whole" "Reader.whole" (mP 20 4) (mB 20 4) (mS 20 4) 0 .none .none .none .none .none .none)), #[]⟩
noncomputable def ob166 : Obj := cdat "whole" "Reader.whole" 420 421 422 106 2 3 161 true 181 162 (.ref 163) (.ref 164) (.ref 165) 426 427
noncomputable def ob167 : Obj := ⟨(.type "function"), none, (.func (fdat "whole" "Reader.whole" (mP 20 4) (mB 20 4) (mS 20 4) 3 .none .none .none (.str "quic.octets" 376) (.ref 166) .none)), #[]⟩
noncomputable def ob170 : Obj := ⟨(.type "tuple"), none, (.seq #[(.str "self" 432), (.str "found" 433)] 0), #[]⟩
noncomputable def ob172 : Obj := ⟨.none, none, (.func (fdat "varint" "Reader.varint" (mP 20 5) (mB 20 5) (mS 20 5) 0 .none .none .none .none .none .none)), #[]⟩
noncomputable def ob173 : Obj := cdat "varint" "Reader.varint" 429 430 431 111 1 3 168 true 181 169 (.ref 170) (.ref 171) (.ref 172) 434 435
noncomputable def ob174 : Obj := ⟨(.type "function"), none, (.func (fdat "varint" "Reader.varint" (mP 20 5) (mB 20 5) (mS 20 5) 3 .none .none .none (.str "quic.octets" 376) (.ref 173) .none)), #[]⟩
noncomputable def ob175 : Obj := ⟨(.type "tuple"), none, (.seq #[(.str "at" 437), (.str "data" 438)] 0), #[]⟩
noncomputable def ob176 (P : Params) : Obj := ⟨(.type "dict"), none, (.dict #[ent P "__module__" 385 (.str "quic.octets" 376), ent P "__firstlineno__" 389 (.int 91 388), ent P "__init__" 397 (.ref 139), ent P "left" 404 (.ref 146), ent P "take" 412 (.ref 153), ent P "rest" 419 (.ref 160), ent P "whole" 428 (.ref 167), ent P "varint" 436 (.ref 174), ent P "__static_attributes__" 439 (.ref 175), ent P "__dict__" 441 (.ref 178), ent P "__weakref__" 443 (.ref 179), ent P "__doc__" 444 .none] 4), #[]⟩
noncomputable def ob177 : Obj := ⟨(.type "type"), none, (.cls { name := "Reader", bases := [(.type "object")], mro := [(.ref 177), (.type "object")], ns := 176, qualname := "Reader", hasDict := true, slotNames := [], subclasses := [], abstract := false, collection := none, hasDel := false }), #[none, none, some (.str "Reader" 378), some (.str "Reader" 386), some (.builtin "object.__new__"), some (.bool true)]⟩
noncomputable def ob178 : Obj := ⟨(.type "getset_descriptor"), none, (.fields #[(.str "__dict__" 440), (.ref 177), (.builtin "function.__dict__"), (.builtin "function.__dict__#set")]), #[]⟩
noncomputable def ob179 : Obj := ⟨(.type "getset_descriptor"), none, (.fields #[(.str "__weakref__" 442), (.ref 177), (.builtin "ExceptionGroup.__weakref__"), .none]), #[]⟩
noncomputable def ob180 : Obj := ⟨(.type "super"), none, (.fields #[(.ref 177), (.ref 177), (.ref 177)]), #[]⟩
noncomputable def ob181 : Obj := ⟨(.type "builtin_function_or_method"), none, (.fields #[(.builtin "object.__init_subclass__"), (.ref 177)]), #[]⟩
noncomputable def ob3v6 (P : Params) : Obj := ⟨(.type "dict"), none, (.dict #[ent P "__name__" 165 (.str "law_pq0973_01" 510), ent P "__doc__" 166 .none, ent P "__package__" 167 .none, ent P "__loader__" 168 (ldr P), ent P "__spec__" 169 .none, ent P "__annotations__" 170 (.ref 6), ent P "__builtins__" 171 (.ref 4), ent P "__file__" 173 (.str "/claim/cut.py" 172), ent P "__cached__" 174 .none, ent P "_wall" 193 (.ref 21), ent P "INTERNAL_ERROR" 197 (.int 1 196), ent P "FRAME_ENCODING_ERROR" 199 (.int 7 198), ent P "QuicError" 232 (.ref 38), ent P "Short" 261 (.ref 58), ent P "VARINT_SIZES" 268 (.ref 62), ent P "put_whole" 278 (.ref 69), ent P "get_whole" 289 (.ref 76), ent P "varint_size" 297 (.ref 83), ent P "put_varint" 306 (.ref 90), ent P "get_varint" 315 (.ref 97), ent P "ACK_TYPE" 319 (.int 2 318), ent P "gaps_of" 331 (.ref 104), ent P "ranges_of" 344 (.ref 111), ent P "put_ranges" 358 (.ref 118), ent P "fitting" 375 (.ref 125), ent P "Reader" 446 (.ref 177), ent P "add_number" 461 (.ref 188), ent P "has_number" 467 (.ref 193), ent P "largest_of" 474 (.ref 200), ent P "count_of" 480 (.ref 205), ent P "ack_of" 488 (.ref 212), ent P "newly_acked" 494 (.ref 217), ent P "prune" 500 (.ref 222), ent P "are_right" 509 (.ref 229), ent P "_law_take" 519 (.ref 236), ent P "_law_ranges" 528 (.ref 243), ent P "_law_lot_right" 534 (.ref 248), ent P "_law_bent_right" 545 (.ref 255), ent P "_law_read" 551 (.ref 260), ent P "_law_octets_right" 562 (.ref 267), ent P "_law_ends_right" 577 (.ref 274), ent P "_law_rooms_right" 583 (.ref 279), ent P "law" 589 (.ref 284)] 43), #[]⟩
noncomputable def ob12v6 (P : Params) : Obj := ⟨.none, none, (.fields #[(.int 1 0), (.int 0 0), (.ref 20), (.int 7 0), (.int 0 0), (.ref 27), (.int 14 0), (.int 0 0), (.ref 47), (.int 21 0), (.int 0 0), (.ref 68), (.int 29 0), (.int 0 0), (.ref 75), (.int 36 0), (.int 0 0), (.ref 82), (.int 41 0), (.int 0 0), (.ref 89), (.int 48 0), (.int 0 0), (.ref 96), (.int 55 0), (.int 0 0), (.ref 103), (.int 62 0), (.int 0 0), (.ref 110), (.int 72 0), (.int 0 0), (.ref 117), (.int 78 0), (.int 0 0), (.ref 124), (.int 91 0), (.int 0 0), (.ref 131), (.int 115 0), (.int 0 0), (.ref 187), (.int 128 0), (.int 0 0), (.ref 192), (.int 130 0), (.int 0 0), (.ref 199), (.int 132 0), (.int 0 0), (.ref 204), (.int 134 0), (.int 0 0), (.ref 211), (.int 136 0), (.int 0 0), (.ref 216), (.int 138 0), (.int 0 0), (.ref 221), (.int 140 0), (.int 0 0), (.ref 228), (.int 146 0), (.int 0 0), (.ref 235), (.int 151 0), (.int 0 0), (.ref 242), (.int 159 0), (.int 0 0), (.ref 247), (.int 174 0), (.int 0 0), (.ref 254), (.int 180 0), (.int 0 0), (.ref 259), (.int 187 0), (.int 0 0), (.ref 266), (.int 193 0), (.int 0 0), (.ref 273), (.int 204 0), (.int 0 0), (.ref 278), (.int 212 0), (.int 0 0), (.ref 283)]), #[]⟩
noncomputable def ob184 : Obj := ⟨(.type "tuple"), none, (.seq #[(.str "ranges" 452), (.str "n" 453), (.str "low" 454), (.str "high" 455), (.str "found" 456), (.str "is_in" 457), (.str "one" 458)] 0), #[]⟩
noncomputable def ob186 : Obj := ⟨.none, none, (.func (fdat "add_number" "add_number" (dP 22) (dB 22) (dS 22) 0 .none .none .none .none .none .none)), #[]⟩
noncomputable def ob187 : Obj := cdat "add_number" "add_number" 449 450 451 115 2 3 182 true 181 183 (.ref 184) (.ref 185) (.ref 186) 459 460
noncomputable def ob188 : Obj := ⟨(.type "function"), none, (.func (fdat "add_number" "add_number" (dP 22) (dB 22) (dS 22) 3 .none .none .none (.str "quic.ranges" 447) (.ref 187) .none)), #[]⟩
noncomputable def ob191 : Obj := ⟨.none, none, (.func (fdat "has_number" "has_number" (dP 23) (dB 23) (dS 23) 0 .none .none .none .none .none .none)), #[]⟩
noncomputable def ob192 : Obj := cdat "has_number" "has_number" 462 463 464 128 2 3 189 true 181 190 .none .none (.ref 191) 465 466
noncomputable def ob193 : Obj := ⟨(.type "function"), none, (.func (fdat "has_number" "has_number" (dP 23) (dB 23) (dS 23) 3 .none .none .none (.str "quic.ranges" 447) (.ref 192) .none)), #[]⟩
noncomputable def ob196 : Obj := ⟨(.type "tuple"), none, (.seq #[(.str "ranges" 471)] 0), #[]⟩
noncomputable def ob198 : Obj := ⟨.none, none, (.func (fdat "largest_of" "largest_of" (dP 24) (dB 24) (dS 24) 0 .none .none .none .none .none .none)), #[]⟩
noncomputable def ob199 : Obj := cdat "largest_of" "largest_of" 468 469 470 130 1 3 194 true 181 195 (.ref 196) (.ref 197) (.ref 198) 472 473
noncomputable def ob200 : Obj := ⟨(.type "function"), none, (.func (fdat "largest_of" "largest_of" (dP 24) (dB 24) (dS 24) 3 .none .none .none (.str "quic.ranges" 447) (.ref 199) .none)), #[]⟩
noncomputable def ob203 : Obj := ⟨.none, none, (.func (fdat "count_of" "count_of" (dP 25) (dB 25) (dS 25) 0 .none .none .none .none .none .none)), #[]⟩
noncomputable def ob204 : Obj := cdat "count_of" "count_of" 475 476 477 132 1 3 201 true 181 202 .none .none (.ref 203) 478 479
noncomputable def ob205 : Obj := ⟨(.type "function"), none, (.func (fdat "count_of" "count_of" (dP 25) (dB 25) (dS 25) 3 .none .none .none (.str "quic.ranges" 447) (.ref 204) .none)), #[]⟩
noncomputable def ob208 : Obj := ⟨(.type "tuple"), none, (.seq #[(.str "ranges" 484), (.str "most" 485)] 0), #[]⟩
noncomputable def ob210 : Obj := ⟨.none, none, (.func (fdat "ack_of" "ack_of" (dP 26) (dB 26) (dS 26) 0 .none .none .none .none .none .none)), #[]⟩
noncomputable def ob211 : Obj := cdat "ack_of" "ack_of" 481 482 483 134 2 3 206 true 181 207 (.ref 208) (.ref 209) (.ref 210) 486 487
noncomputable def ob212 : Obj := ⟨(.type "function"), none, (.func (fdat "ack_of" "ack_of" (dP 26) (dB 26) (dS 26) 3 .none .none .none (.str "quic.ranges" 447) (.ref 211) .none)), #[]⟩
noncomputable def ob215 : Obj := ⟨.none, none, (.func (fdat "newly_acked" "newly_acked" (dP 27) (dB 27) (dS 27) 0 .none .none .none .none .none .none)), #[]⟩
noncomputable def ob216 : Obj := cdat "newly_acked" "newly_acked" 489 490 491 136 2 3 213 true 181 214 .none .none (.ref 215) 492 493
noncomputable def ob217 : Obj := ⟨(.type "function"), none, (.func (fdat "newly_acked" "newly_acked" (dP 27) (dB 27) (dS 27) 3 .none .none .none (.str "quic.ranges" 447) (.ref 216) .none)), #[]⟩
noncomputable def ob220 : Obj := ⟨.none, none, (.func (fdat "prune" "prune" (dP 28) (dB 28) (dS 28) 0 .none .none .none .none .none .none)), #[]⟩
noncomputable def ob221 : Obj := cdat "prune" "prune" 495 496 497 138 2 3 218 true 181 219 .none .none (.ref 220) 498 499
noncomputable def ob222 : Obj := ⟨(.type "function"), none, (.func (fdat "prune" "prune" (dP 28) (dB 28) (dS 28) 3 .none .none .none (.str "quic.ranges" 447) (.ref 221) .none)), #[]⟩
noncomputable def ob225 : Obj := ⟨(.type "tuple"), none, (.seq #[(.str "ranges" 504), (.str "at" 505), (.str "one" 506)] 0), #[]⟩
noncomputable def ob227 : Obj := ⟨.none, none, (.func (fdat "are_right" "are_right" (dP 29) (dB 29) (dS 29) 0 .none .none .none .none .none .none)), #[]⟩
noncomputable def ob228 : Obj := cdat "are_right" "are_right" 501 502 503 140 1 3 223 true 181 224 (.ref 225) (.ref 226) (.ref 227) 507 508
noncomputable def ob229 : Obj := ⟨(.type "function"), none, (.func (fdat "are_right" "are_right" (dP 29) (dB 29) (dS 29) 3 .none .none .none (.str "quic.ranges" 447) (.ref 228) .none)), #[]⟩
noncomputable def ob232 : Obj := ⟨(.type "tuple"), none, (.seq #[(.str "box" 515), (.str "many" 516)] 0), #[]⟩
noncomputable def ob234 : Obj := ⟨.none, none, (.func (fdat "_law_take" "_law_take" (dP 31) (dB 31) (dS 31) 0 .none .none .none .none .none .none)), #[]⟩
noncomputable def ob235 : Obj := cdat "_law_take" "_law_take" 512 513 514 146 2 3 230 true 181 231 (.ref 232) (.ref 233) (.ref 234) 517 518
noncomputable def ob236 : Obj := ⟨(.type "function"), none, (.func (fdat "_law_take" "_law_take" (dP 31) (dB 31) (dS 31) 3 .none .none .none (.str "law_pq0973_01" 510) (.ref 235) .none)), #[]⟩
noncomputable def ob239 : Obj := ⟨(.type "tuple"), none, (.seq #[(.str "lot" 523), (.str "found" 524), (.str "number" 525)] 0), #[]⟩
noncomputable def ob241 : Obj := ⟨.none, none, (.func (fdat "_law_ranges" "_law_ranges" (dP 32) (dB 32) (dS 32) 0 .none .none .none .none .none .none)), #[]⟩
noncomputable def ob242 : Obj := cdat "_law_ranges" "_law_ranges" 520 521 522 151 1 3 237 true 181 238 (.ref 239) (.ref 240) (.ref 241) 526 527
noncomputable def ob243 : Obj := ⟨(.type "function"), none, (.func (fdat "_law_ranges" "_law_ranges" (dP 32) (dB 32) (dS 32) 3 .none .none .none (.str "law_pq0973_01" 510) (.ref 242) .none)), #[]⟩
noncomputable def ob246 : Obj := ⟨.none, none, (.func (fdat "_law_lot_right" "_law_lot_right" (dP 33) (dB 33) (dS 33) 0 .none .none .none .none .none .none)), #[]⟩
noncomputable def ob247 : Obj := cdat "_law_lot_right" "_law_lot_right" 529 530 531 159 2 3 244 true 181 245 .none .none (.ref 246) 532 533
noncomputable def ob248 : Obj := ⟨(.type "function"), none, (.func (fdat "_law_lot_right" "_law_lot_right" (dP 33) (dB 33) (dS 33) 3 .none .none .none (.str "law_pq0973_01" 510) (.ref 247) .none)), #[]⟩
noncomputable def ob251 : Obj := ⟨(.type "tuple"), none, (.seq #[(.str "box" 538), (.str "base" 539), (.str "low" 540), (.str "rows" 541), (.str "at" 542)] 0), #[]⟩
noncomputable def ob253 : Obj := ⟨.none, none, (.func (fdat "_law_bent_right" "_law_bent_right" (dP 34) (dB 34) (dS 34) 0 .none .none .none .none .none .none)), #[]⟩
noncomputable def ob254 : Obj := cdat "_law_bent_right" "_law_bent_right" 535 536 537 174 2 3 249 true 181 250 (.ref 251) (.ref 252) (.ref 253) 543 544
noncomputable def ob255 : Obj := ⟨(.type "function"), none, (.func (fdat "_law_bent_right" "_law_bent_right" (dP 34) (dB 34) (dS 34) 3 .none .none .none (.str "law_pq0973_01" 510) (.ref 254) .none)), #[]⟩
noncomputable def ob258 : Obj := ⟨.none, none, (.func (fdat "_law_read" "_law_read" (dP 35) (dB 35) (dS 35) 0 .none .none .none .none .none .none)), #[]⟩
noncomputable def ob259 : Obj := cdat "_law_read" "_law_read" 546 547 548 180 1 3 256 true 181 257 .none .none (.ref 258) 549 550
noncomputable def ob260 : Obj := ⟨(.type "function"), none, (.func (fdat "_law_read" "_law_read" (dP 35) (dB 35) (dS 35) 3 .none .none .none (.str "law_pq0973_01" 510) (.ref 259) .none)), #[]⟩
noncomputable def ob263 : Obj := ⟨(.type "tuple"), none, (.seq #[(.str "lot" 555), (.str "some" 556), (.str "largest" 557), (.str "first" 558), (.str "pairs" 559)] 0), #[]⟩
noncomputable def ob265 : Obj := ⟨.none, none, (.func (fdat "_law_octets_right" "_law_octets_right" (dP 36) (dB 36) (dS 36) 0 .none .none .none .none .none .none)), #[]⟩
noncomputable def ob266 : Obj := cdat "_law_octets_right" "_law_octets_right" 552 553 554 187 1 3 261 true 181 262 (.ref 263) (.ref 264) (.ref 265) 560 561
noncomputable def ob267 : Obj := ⟨(.type "function"), none, (.func (fdat "_law_octets_right" "_law_octets_right" (dP 36) (dB 36) (dS 36) 3 .none .none .none (.str "law_pq0973_01" 510) (.ref 266) .none)), #[]⟩
noncomputable def ob270 : Obj := ⟨(.type "tuple"), none, (.seq #[(.str "box" 566), (.str "form" 567), (.str "off" 568), (.str "size" 569), (.str "largest" 570), (.str "first" 571), (.str "pairs" 572), (.str "due" 573), (.str "wrong" 574)] 0), #[]⟩
noncomputable def ob272 : Obj := ⟨.none, none, (.func (fdat "_law_ends_right" "_law_ends_right" (dP 37) (dB 37) (dS 37) 0 .none .none .none .none .none .none)), #[]⟩
noncomputable def ob273 : Obj := cdat "_law_ends_right" "_law_ends_right" 563 564 565 193 1 3 268 true 181 269 (.ref 270) (.ref 271) (.ref 272) 575 576
noncomputable def ob274 : Obj := ⟨(.type "function"), none, (.func (fdat "_law_ends_right" "_law_ends_right" (dP 37) (dB 37) (dS 37) 3 .none .none .none (.str "law_pq0973_01" 510) (.ref 273) .none)), #[]⟩
noncomputable def ob277 : Obj := ⟨.none, none, (.func (fdat "_law_rooms_right" "_law_rooms_right" (dP 38) (dB 38) (dS 38) 0 .none .none .none .none .none .none)), #[]⟩
noncomputable def ob278 : Obj := cdat "_law_rooms_right" "_law_rooms_right" 578 579 580 204 2 3 275 true 181 276 .none .none (.ref 277) 581 582
noncomputable def ob279 : Obj := ⟨(.type "function"), none, (.func (fdat "_law_rooms_right" "_law_rooms_right" (dP 38) (dB 38) (dS 38) 3 .none .none .none (.str "law_pq0973_01" 510) (.ref 278) .none)), #[]⟩
noncomputable def ob282 : Obj := ⟨.none, none, (.func (fdat "law" "law" (dP 39) (dB 39) (dS 39) 0 .none .none .none .none .none .none)), #[]⟩
noncomputable def ob283 : Obj := cdat "law" "law" 584 585 586 212 1 3 280 true 181 281 .none .none (.ref 282) 587 588
noncomputable def ob284 : Obj := ⟨(.type "function"), none, (.func (fdat "law" "law" (dP 39) (dB 39) (dS 39) 3 .none .none .none (.str "law_pq0973_01" 510) (.ref 283) .none)), #[]⟩
noncomputable def hs0 (P : Params) : Heap := ⟨⟨[boot_o_0 P, boot_o_1 P, boot_o_2 P, boot_o_3 P, boot_o_4 P, boot_o_5 P, boot_o_6 P, boot_o_7 P, boot_o_8 P, boot_o_9 P, boot_o_10 P, ob11, ob12, ob13, ob14]⟩, {}⟩
noncomputable def hs1 (P : Params) : Heap := ⟨⟨[boot_o_0 P, boot_o_1 P, boot_o_2 P, ob3v1 P, boot_o_4 P, boot_o_5 P, boot_o_6 P, boot_o_7 P, boot_o_8 P, boot_o_9 P, boot_o_10 P, ob11, ob12v1 P, ob13, ob14, ob11, ob12, ob17, ob11, ob19, ob20, ob21]⟩, {}⟩
noncomputable def hs2 (P : Params) : Heap := ⟨⟨[boot_o_0 P, boot_o_1 P, ob2v1 P, ob3v2 P, boot_o_4 P, boot_o_5 P, boot_o_6 P, boot_o_7 P, boot_o_8 P, boot_o_9 P, boot_o_10 P, ob11, ob12v2 P, ob13, ob14, ob11, ob12, ob17, ob11, ob19, ob20, ob21, ob22, ob23, ob24 P, ob11, ob26, ob27, ob28, ob11, ob12, ob31, ob11, ob33, ob34, ob35, ob36, ob37 P, ob38, ob39, ob40, ob41]⟩, {}⟩
noncomputable def hs3 (P : Params) : Heap := ⟨⟨[boot_o_0 P, boot_o_1 P, ob2v2 P, ob3v3 P, boot_o_4 P, boot_o_5 P, boot_o_6 P, boot_o_7 P, boot_o_8 P, boot_o_9 P, boot_o_10 P, ob11, ob12v3 P, ob13, ob14, ob11, ob12, ob17, ob11, ob19, ob20, ob21, ob22, ob23, ob24 P, ob11, ob26, ob27, ob28, ob11, ob12, ob31, ob11, ob33, ob34, ob35, ob36, ob37 P, ob38, ob39, ob40, ob41, ob22, ob23, ob44 P, ob11, ob46, ob47, ob48, ob11, ob12, ob51, ob11, ob53, ob54, ob55, ob56, ob57 P, ob58, ob59, ob60, ob61]⟩, {}⟩
noncomputable def hs4 (P : Params) : Heap := ⟨⟨[boot_o_0 P, boot_o_1 P, ob2v2 P, ob3v4 P, boot_o_4 P, boot_o_5 P, boot_o_6 P, boot_o_7 P, boot_o_8 P, boot_o_9 P, boot_o_10 P, ob11, ob12v4 P, ob13, ob14, ob11, ob12, ob17, ob11, ob19, ob20, ob21, ob22, ob23, ob24 P, ob11, ob26, ob27, ob28, ob11, ob12, ob31, ob11, ob33, ob34, ob35, ob36, ob37 P, ob38, ob39, ob40, ob41, ob22, ob23, ob44 P, ob11, ob46, ob47, ob48, ob11, ob12, ob51, ob11, ob53, ob54, ob55, ob56, ob57 P, ob58, ob59, ob60, ob61, ob62, ob11, ob12, ob65, ob11, ob67, ob68, ob69, ob11, ob12, ob72, ob11, ob74, ob75, ob76, ob11, ob12, ob79, ob11, ob81, ob82, ob83, ob11, ob12, ob86, ob11, ob88, ob89, ob90, ob11, ob12, ob93, ob11, ob95, ob96, ob97, ob11, ob12, ob100, ob11, ob102, ob103, ob104, ob11, ob12, ob107, ob11, ob109, ob110, ob111, ob11, ob12, ob114, ob11, ob116, ob117, ob118, ob11, ob12, ob121, ob11, ob123, ob124, ob125]⟩, {}⟩
noncomputable def hs5 (P : Params) : Heap := ⟨⟨[boot_o_0 P, boot_o_1 P, ob2v2 P, ob3v5 P, boot_o_4 P, boot_o_5 P, boot_o_6 P, boot_o_7 P, boot_o_8 P, boot_o_9 P, boot_o_10 P, ob11, ob12v5 P, ob13, ob14, ob11, ob12, ob17, ob11, ob19, ob20, ob21, ob22, ob23, ob24 P, ob11, ob26, ob27, ob28, ob11, ob12, ob31, ob11, ob33, ob34, ob35, ob36, ob37 P, ob38, ob39, ob40, ob41, ob22, ob23, ob44 P, ob11, ob46, ob47, ob48, ob11, ob12, ob51, ob11, ob53, ob54, ob55, ob56, ob57 P, ob58, ob59, ob60, ob61, ob62, ob11, ob12, ob65, ob11, ob67, ob68, ob69, ob11, ob12, ob72, ob11, ob74, ob75, ob76, ob11, ob12, ob79, ob11, ob81, ob82, ob83, ob11, ob12, ob86, ob11, ob88, ob89, ob90, ob11, ob12, ob93, ob11, ob95, ob96, ob97, ob11, ob12, ob100, ob11, ob102, ob103, ob104, ob11, ob12, ob107, ob11, ob109, ob110, ob111, ob11, ob12, ob114, ob11, ob116, ob117, ob118, ob11, ob12, ob121, ob11, ob123, ob124, ob125, ob11, ob23, ob128 P, ob11, ob130, ob131, ob132, ob11, ob12, ob135, ob11, ob137, ob138, ob139, ob11, ob12, ob142, ob11, ob144, ob145, ob146, ob11, ob12, ob149, ob11, ob151, ob152, ob153, ob11, ob12, ob156, ob11, ob158, ob159, ob160, ob11, ob12, ob163, ob11, ob165, ob166, ob167, ob11, ob12, ob170, ob11, ob172, ob173, ob174, ob175, ob176 P, ob177, ob178, ob179, ob180, ob181]⟩, {}⟩
noncomputable def hs6 (P : Params) : Heap := ⟨⟨[boot_o_0 P, boot_o_1 P, ob2v2 P, ob3v6 P, boot_o_4 P, boot_o_5 P, boot_o_6 P, boot_o_7 P, boot_o_8 P, boot_o_9 P, boot_o_10 P, ob11, ob12v6 P, ob13, ob14, ob11, ob12, ob17, ob11, ob19, ob20, ob21, ob22, ob23, ob24 P, ob11, ob26, ob27, ob28, ob11, ob12, ob31, ob11, ob33, ob34, ob35, ob36, ob37 P, ob38, ob39, ob40, ob41, ob22, ob23, ob44 P, ob11, ob46, ob47, ob48, ob11, ob12, ob51, ob11, ob53, ob54, ob55, ob56, ob57 P, ob58, ob59, ob60, ob61, ob62, ob11, ob12, ob65, ob11, ob67, ob68, ob69, ob11, ob12, ob72, ob11, ob74, ob75, ob76, ob11, ob12, ob79, ob11, ob81, ob82, ob83, ob11, ob12, ob86, ob11, ob88, ob89, ob90, ob11, ob12, ob93, ob11, ob95, ob96, ob97, ob11, ob12, ob100, ob11, ob102, ob103, ob104, ob11, ob12, ob107, ob11, ob109, ob110, ob111, ob11, ob12, ob114, ob11, ob116, ob117, ob118, ob11, ob12, ob121, ob11, ob123, ob124, ob125, ob11, ob23, ob128 P, ob11, ob130, ob131, ob132, ob11, ob12, ob135, ob11, ob137, ob138, ob139, ob11, ob12, ob142, ob11, ob144, ob145, ob146, ob11, ob12, ob149, ob11, ob151, ob152, ob153, ob11, ob12, ob156, ob11, ob158, ob159, ob160, ob11, ob12, ob163, ob11, ob165, ob166, ob167, ob11, ob12, ob170, ob11, ob172, ob173, ob174, ob175, ob176 P, ob177, ob178, ob179, ob180, ob181, ob11, ob12, ob184, ob11, ob186, ob187, ob188, ob11, ob12, ob191, ob192, ob193, ob11, ob12, ob196, ob11, ob198, ob199, ob200, ob11, ob12, ob203, ob204, ob205, ob11, ob12, ob208, ob11, ob210, ob211, ob212, ob11, ob12, ob215, ob216, ob217, ob11, ob12, ob220, ob221, ob222, ob11, ob12, ob225, ob11, ob227, ob228, ob229, ob11, ob12, ob232, ob11, ob234, ob235, ob236, ob11, ob12, ob239, ob11, ob241, ob242, ob243, ob11, ob12, ob246, ob247, ob248, ob11, ob12, ob251, ob11, ob253, ob254, ob255, ob11, ob12, ob258, ob259, ob260, ob11, ob12, ob263, ob11, ob265, ob266, ob267, ob11, ob12, ob270, ob11, ob272, ob273, ob274, ob11, ob12, ob277, ob278, ob279, ob11, ob12, ob282, ob283, ob284]⟩, {}⟩
noncomputable abbrev pg : Program := PySem.Challenge.rw_pq0973_01.row.prog
noncomputable def bA : List Stmt := behindTheImports pg
noncomputable def eA : Env := { scope := pg.main.scope, locals := mainNs, globals := mainNs, cells := [], code := .ref 13, frame := some 14 }
noncomputable def cA : Code := .body bA eA
noncomputable def st (H : Params → Heap) (k : Nat) (w : World) (os : OsState) : Shared := ⟨H w.params, ⟨[]⟩, {}, k, os⟩
noncomputable def sl (a n : Nat) : List Stmt := (bA.drop a).take n
noncomputable abbrev q0 : Pos := ⟨0, 0, 0, 0⟩
noncomputable def ann0 : Option Value := some (.ref 6)
set_option maxRecDepth 100000 in
theorem run_pre (w : World) (os : OsState) : topGo treeTable pg w 11 ann0 12 ⟨boot_heap w.params, ⟨[]⟩, boot_drawn, boot_toks, os⟩ (topStub pg) = some (st hs0 187 w os, ⟨denote treeTable cA, cA, ⟨0, 0, 0, 0⟩, [topFrame q0]⟩) := by kernel_rfl
set_option maxRecDepth 100000 in
theorem run_block (w : World) (os : OsState) : segRun treeTable pg w 11 ann0 1 1 (st hs0 187 w os) (blockOf bA eA cA ⟨0, 0, 0, 0⟩ [topFrame q0]) = some (.next, st hs0 187 w os, cA, q0) := by kernel_rfl
set_option maxRecDepth 100000 in
theorem run_1 (w : World) (os : OsState) : segRun treeTable pg w 11 ann0 1 57 (st hs0 187 w os) (piecesOf (sl 0 4) eA cA q0 [topFrame q0]) = some (.next, st hs1 200 w os, cA, ⟨6, 0, 6, 20⟩) := by kernel_rfl
set_option maxRecDepth 100000 in
theorem run_2 (w : World) (os : OsState) : segRun treeTable pg w 11 ann0 1 233 (st hs1 200 w os) (piecesOf (sl 4 1) eA cA ⟨6, 0, 6, 20⟩ [topFrame q0]) = some (.next, st hs2 233 w os, cA, ⟨7, 0, 13, 24⟩) := by kernel_rfl
set_option maxRecDepth 100000 in
theorem run_3 (w : World) (os : OsState) : segRun treeTable pg w 11 ann0 1 229 (st hs2 233 w os) (piecesOf (sl 5 1) eA cA ⟨7, 0, 13, 24⟩ [topFrame q0]) = some (.next, st hs3 262 w os, cA, ⟨14, 0, 18, 24⟩) := by kernel_rfl
set_option maxRecDepth 100000 in
theorem run_4 (w : World) (os : OsState) : segRun treeTable pg w 11 ann0 1 352 (st hs3 262 w os) (piecesOf (sl 6 14) eA cA ⟨14, 0, 18, 24⟩ [topFrame q0]) = some (.next, st hs4 378 w os, cA, ⟨90, 0, 90, 8⟩) := by kernel_rfl
set_option maxRecDepth 100000 in
theorem run_5 (w : World) (os : OsState) : segRun treeTable pg w 11 ann0 1 383 (st hs4 378 w os) (piecesOf (sl 20 1) eA cA ⟨90, 0, 90, 8⟩ [topFrame q0]) = some (.next, st hs5 447 w os, cA, ⟨91, 0, 113, 20⟩) := by kernel_rfl
set_option maxRecDepth 100000 in
theorem run_6 (w : World) (os : OsState) : segRun treeTable pg w 11 ann0 1 516 (st hs5 447 w os) (piecesOf (sl 21 19) eA cA ⟨91, 0, 113, 20⟩ [topFrame q0]) = some (.next, st hs6 590 w os, cA, ⟨212, 0, 220, 64⟩) := by kernel_rfl
set_option maxRecDepth 100000 in
theorem run_fin (w : World) (os : OsState) : topRun treeTable pg w 11 ann0 2 (st hs6 590 w os) ⟨doneF .next, cA, ⟨212, 0, 220, 64⟩, [topFrame q0]⟩ = some (st hs6 590 w os) := by kernel_rfl
set_option maxRecDepth 100000 in
theorem bA_eq : bA = sl 0 4 ++ (sl 4 1 ++ (sl 5 1 ++ (sl 6 14 ++ (sl 20 1 ++ (sl 21 19 ++ []))))) := by kernel_rfl
theorem run_all (w : World) (os : OsState) : topRun treeTable pg w 11 ann0 (12 + (1 + (57 + (233 + (229 + (352 + (383 + (516 + 2)))))))) ⟨boot_heap w.params, ⟨[]⟩, boot_drawn, boot_toks, os⟩ (topStub pg) = some (st hs6 590 w os) := by
  refine go_top (run_pre w os) (piece_block (run_block w os) ?_)
  rw [bA_eq]
  exact piece_app (run_1 w os) (piece_app (run_2 w os) (piece_app (run_3 w os) (piece_app (run_4 w os) (piece_app (run_5 w os) (piece_app (run_6 w os) (piece_nil (run_fin w os)))))))
set_option maxRecDepth 100000 in
theorem open_plain : opening pg = plainProg pg.main.scope.names := by kernel_rfl
theorem fence_plain : ∀ s, fenceModules? pg s = some s := by intro s; kernel_rfl
set_option maxRecDepth 100000 in
theorem size_ok (w : World) : ((boot_heap w.params).isNs mainGlobals && (⟨[]⟩ : Array GenState).size == 0, (boot_heap w.params).objs.size, (boot_heap w.params).nsMap mainGlobals "__annotations__") = (true, 11, ann0) := by kernel_rfl
end Mine
end
section
open PySem PySem.W PyProof.Rows
set_option linter.unusedVariables false
set_option Elab.async false
namespace Mine
theorem holds_calm {r : OpenRow} {q : Program} {loose : List Str} {Xt : Shared → Bool} {XP : (Str → Option Value) → Heap → Prop} {α : Type} {Yf : Shared → α} {Ya : World → α} {YP : World → Heap → Prop} {d : DefRec} {kwd : List (Str × Expr)} {N : Nat}
    (left : LeftO r.prog q loose Xt Yf Ya N) (hY : ∀ w s, Yf s = Ya w → YP w s.heap) (hYk : ∀ w h h', YP w h → (∀ b o, h.get? b = some o → h'.get? b = some o) → YP w h')
    (hX : ∀ s, Xt s = true → XP (s.heap.nsMap mainGlobals) s.heap) (hXk : ∀ mg h h', XP mg h → (∀ b o, h.get? b = some o → h'.get? b = some o) → XP mg h')
    (hdef : defOf q r.name = some (d, kwd)) (hp : r.prog.theDef r.name = some (d.params, d.body, d.scope)) (hk : kwWritten? d.params.kwonlyargs d.params.kw_defaults = some kwd) (hRf : ∀ s, Xt s = true → RecFacts r.records s.heap) (hwr : (!r.writes || r.records.isEmpty) = true)
    (k1 : r.wellSaid = true) (ok : (chainsOk q && opensWell r.prog && (frees r.toRowW && r.within.isEmpty)) = true) (hb : r.prog.bare) (hw : r.toRowW.promised)
    (call : WalkCalm q loose XP YP r.toRowW d kwd) : r.Holds :=
  ⟨k1, hw, openBy_calm (r := r.toRowW) left hY hYk hX hXk hdef hRf hwr ok hb hw (fun w s hg G n hn => by
    obtain rfl : n = r.name := by split at hn <;> simp_all
    exact pinned_of_view hg G hdef hp hk) call⟩
noncomputable def dPos (i : Nat) : Pos := match stm i with | .FunctionDef _ _ _ _ _ _ _ _ _ p => p | _ => ⟨0, 0, 0, 0⟩
noncomputable def recI (i : Nat) : DefRec := ⟨dN i, dP i, dB i, dS i, dPos i⟩
/-- the statements of the top that bind what stands at its end -/
noncomputable def vw : Program := view PySem.Challenge.pw_pq0973_01 [0, 2, 3, 4, 5, 7, 8, 9, 10, 11, 12, 14, 15, 16, 17, 18, 20, 22, 23, 24, 25, 26, 27, 28, 29, 31, 32, 33, 34, 35, 36, 37, 38, 39]
noncomputable def fnO (nm qual : Str) (i j : Nat) (m : Str) (t : Tok) (c : Addr) : Obj := { cls := .type "function", data := .func (mfd nm qual i j (.str m t) (.ref c)) }
noncomputable def codeO (nm qual : Str) (t1 t2 t3 line args c1 c2 c3 c4 c5 t4 t5 : Nat) : Obj :=
  { cls := .type "code", data := .fields #[.str nm t1, .str qual t2, .str "/claim/cut.py" t3, .int line 0, .int args 0, .int 0 0, .int 0 0, .int 3 0, .ref c1, .bool true, .int 181 0, .ref c2, .none, .ref c3, .ref c4, .ref c5, .int t4 0, .int line 0, .str "/claim/cut.py" t5] }
noncomputable def kA : List Addr := [37, 38, 34, 35, 177, 176, 139, 138, 146, 145, 174, 173, 62]
noncomputable def kp (P : Params) : Frag := [
  (37, { cls := .type "dict", data := .dict #[ent P "__module__" 207 (.str "quic.errors" 194), ent P "__firstlineno__" 211 (.int 7 210), ent P "__init__" 221 (.ref 35), ent P "__static_attributes__" 225 (.ref 36), ent P "__weakref__" 227 (.ref 39), ent P "__doc__" 228 .none] 3 }),
  (38, excClassObj "QuicError" "QuicError" 38 37 [.type "Exception"] [.type "Exception", .type "BaseException", .type "object"] true [] [] false none none (some (.ref 22)) none (some (.str "QuicError" 200)) (some (.str "QuicError" 208)) (some (.bool true)) "Exception.__new__"),
  (34, codeO "__init__" "QuicError.__init__" 212 213 214 9 4 29 30 31 32 33 219 220),
  (35, fnO "__init__" "QuicError.__init__" 4 0 "quic.errors" 194 34),
  (177, { cls := .type "type", data := .cls { name := "Reader", bases := [.type "object"], mro := [.ref 177, .type "object"], ns := 176, qualname := "Reader" }, slots := #[none, none, some (.str "Reader" 378), some (.str "Reader" 386), some (.builtin "object.__new__"), some (.bool true)] }),
  (176, { cls := .type "dict", data := .dict #[ent P "__module__" 385 (.str "quic.octets" 376), ent P "__firstlineno__" 389 (.int 91 388), ent P "__init__" 397 (.ref 139), ent P "left" 404 (.ref 146), ent P "take" 412 (.ref 153), ent P "rest" 419 (.ref 160), ent P "whole" 428 (.ref 167), ent P "varint" 436 (.ref 174), ent P "__static_attributes__" 439 (.ref 175), ent P "__dict__" 441 (.ref 178), ent P "__weakref__" 443 (.ref 179), ent P "__doc__" 444 .none] 4 }),
  (139, fnO "__init__" "Reader.__init__" 20 0 "quic.octets" 376 138),
  (138, codeO "__init__" "Reader.__init__" 390 391 392 93 2 133 134 135 136 137 395 396),
  (146, fnO "left" "Reader.left" 20 1 "quic.octets" 376 145),
  (145, codeO "left" "Reader.left" 398 399 400 97 1 140 141 142 143 144 402 403),
  (174, fnO "varint" "Reader.varint" 20 5 "quic.octets" 376 173),
  (173, codeO "varint" "Reader.varint" 429 430 431 111 1 168 169 170 171 172 434 435),
  (62, { cls := .type "tuple", data := .seq #[.int 1 264, .int 2 265, .int 4 266, .int 8 267] 0 })]
noncomputable def kN : List Str := ["VARINT_SIZES", "QuicError", "Reader", "Exception", "str", "len", "max", "min", "sum", "any", "sorted", "abs", "list", "range", "enumerate", "bytes", "bytearray"]
noncomputable def kV : List (Option Value) := [some (.ref 62), some (.ref 38), some (.ref 177), none, none, none, none, none, none, none, none, none, none, none, none, none, none]
noncomputable def hk : Hook where
  α := List (Option Obj) × Bool × List (Option Value)
  obs s := (kA.map s.heap.get?, s.heap.isNs mainGlobals, kN.map (s.heap.nsMap mainGlobals))
  val w := ((kp w.params).map fun p => some p.2, true, kV)
  says w h := (kp w.params).In h ∧ ∃ m, h.Ns mainGlobals m ∧ kN.map m = kV
  of w s e := ⟨InK.of (K := kp) (as := kA) (fun _ => rfl) w s (congrArg (·.1) e), _, .of_isNs (congrArg (·.2.1) e), congrArg (·.2.2) e⟩
  keeps w h h' x k := ⟨Frag.In.keeps x.1 k, let ⟨m, hm, e⟩ := x.2; ⟨m, hm.keeps k, e⟩⟩
noncomputable abbrev lrow : OpenRow := PySem.Challenge.rw_pq0973_01.row
noncomputable abbrev xt0 (s : Shared) : Bool := xlAt vw [] s && recOk (RowW.records lrow.toRowW) s
noncomputable def sE (w : World) (os : OsState) : Shared := st hs6 590 w os
set_option maxRecDepth 100000 in
theorem look_1 (w : World) (os : OsState) : (staticsOk (importedModules pg.main.body) (boot_heap w.params) (hs6 w.params) && namesBound pg (hs6 w.params) && gensDone (sE w os) && laidKept (boot_heap w.params) (hs6 w.params)) = true := by kernel_rfl
set_option maxRecDepth 100000 in
theorem look_2 (w : World) (os : OsState) : openSeen vw [] (importedModules pg.main.body) xt0 true (sE w os) = openGood vw [] := by
  unfold openSeen openGood
  refine looks_pair ?_ (looks_pair ?_ (looks_pair ?_ (looks_pair ?_ (looks_pair ?_ (looks_pair ?_ (looks_pair ?_ (looks_pair ?_ ?_)))))))
  all_goals kernel_rfl
set_option maxRecDepth 100000 in
theorem look_3 (w : World) (os : OsState) : hk.obs (sE w os) = hk.val w := by kernel_rfl
theorem left_ok : LeftO lrow.prog vw [] xt0 hk.obs hk.val 3654 :=
  LeftO.of_pieces (boot_open open_plain rfl fence_plain) size_ok run_all rfl fun w => funext fun os => looks_pair (look_1 w os) (looks_pair (look_2 w os) (look_3 w os))
theorem and_true {a b : Bool} (x : a = true) (y : b = true) : (a && b) = true := by rw [x, y]; rfl
set_option maxRecDepth 100000 in
theorem said_ok : PySem.Challenge.rw_pq0973_01.wellSaid = true := by
  unfold OpenLaw.wellSaid OpenRow.wellSaid OpenRow.partSaid looksOpen
  repeat' with_reducible refine and_true ?_ ?_
  all_goals decide +kernel
set_option maxRecDepth 100000 in
theorem chains_ok : (chainsOk vw && opensWell lrow.prog && (frees lrow.toRowW && lrow.within.isEmpty)) = true := by kernel_rfl
set_option maxRecDepth 100000 in
theorem promised_ok : PySem.Challenge.rw_pq0973_01.row.toRowW.promised := by w_witness2
set_option maxRecDepth 100000 in
theorem def_ok : defOf vw lrow.name = some (recI 39, []) := by kernel_rfl
set_option maxRecDepth 100000 in
theorem the_def : lrow.prog.theDef lrow.name = some ((recI 39).params, (recI 39).body, (recI 39).scope) := by kernel_rfl
set_option maxRecDepth 100000 in
theorem kw_ok : kwWritten? (recI 39).params.kwonlyargs (recI 39).params.kw_defaults = some [] := by kernel_rfl
set_option maxRecDepth 100000 in
theorem bare_ok : lrow.prog.bare := ⟨rfl, rfl, rfl, rfl, rfl, by decide +kernel⟩
theorem hd9 (call : WalkCalm vw [] (XL vw []) hk.says lrow.toRowW (recI 39) []) : PySem.Challenge.rw_pq0973_01.Holds :=
  holds_law said_ok fun said => holds_calm (r := lrow) left_ok hk.of hk.keeps (fun s e => xl_of s (Bool.and_eq_true_iff.mp e).1) XL.keeps def_ok the_def kw_ok (fun s e => recFacts_of (Bool.and_eq_true_iff.mp e).2) rfl said chains_ok bare_ok promised_ok call
end Mine
end
section
open PySem PyProof.Rows
set_option linter.unusedVariables false
set_option linter.unusedSimpArgs false
namespace Mine
section
variable {σ : Type}
noncomputable def TvN (C : Cx σ) (ρ : Ro) (fo : Option (List Dt)) (st : σ) (t : Sem Value) (d : Dt) (st' : σ) : Prop :=
  ∀ (B : Heap) (mu : List Addr) (K₀ : Kn) (fa : Addr) (K : Kn) (s : Shared) (Q E : Value → Shared → Prop), St C B mu K₀ fa ρ fo K st s.heap →
    (∀ v h' tk K', KLe K K' → St C B mu K₀ fa ρ fo K' st' h' → Rd C.hv K' v d → Q v { s with heap := h', toks := tk }) → wpN (model C.prog C.w) C.A t Q E s
noncomputable abbrev EvN (C : Cx σ) (ρ : Ro) (fo : Option (List Dt)) (st : σ) (e : Expr) (d : Dt) (st' : σ) : Prop := TvN C ρ fo st (eval e C.env) d st'
noncomputable def TbN (C : Cx σ) (ρ : Ro) (fo : Option (List Dt)) (st : σ) (t : Sem Bool) (b : Bool) (st' : σ) : Prop :=
  ∀ (B : Heap) (mu : List Addr) (K₀ : Kn) (fa : Addr) (K : Kn) (s : Shared) (Q : Bool → Shared → Prop) (E : Value → Shared → Prop), St C B mu K₀ fa ρ fo K st s.heap →
    (∀ h' tk K', KLe K K' → St C B mu K₀ fa ρ fo K' st' h' → Q b { s with heap := h', toks := tk }) → wpN (model C.prog C.w) C.A t Q E s
noncomputable abbrev TstN (C : Cx σ) (ρ : Ro) (fo : Option (List Dt)) (st : σ) (e : Expr) (b : Bool) (st' : σ) : Prop := TbN C ρ fo st (isTrue e C.env (eval e C.env)) b st'
noncomputable def TlN (C : Cx σ) (ρ : Ro) (fo : Option (List Dt)) (st : σ) (t : Sem (List Value)) (ds : List Dt) (st' : σ) : Prop :=
  ∀ (B : Heap) (mu : List Addr) (K₀ : Kn) (fa : Addr) (K : Kn) (s : Shared) (Q : List Value → Shared → Prop) (E : Value → Shared → Prop), St C B mu K₀ fa ρ fo K st s.heap →
    (∀ vs h' tk K', KLe K K' → St C B mu K₀ fa ρ fo K' st' h' → Rds C.hv K' vs ds → Q vs { s with heap := h', toks := tk }) → wpN (model C.prog C.w) C.A t Q E s
noncomputable abbrev EsN (C : Cx σ) (ρ : Ro) (fo : Option (List Dt)) (st : σ) (es : List Expr) (ds : List Dt) (st' : σ) : Prop := ∀ pos, TlN C ρ fo st (spliced (backTo pos (starEach es C.env))) ds st'
noncomputable def TsN (C : Cx σ) (ρ : Ro) (fo : Option (List Dt)) (st : σ) (t : Sem Flow) (P : Post σ) : Prop :=
  ∀ (B : Heap) (mu : List Addr) (K₀ : Kn) (fa : Addr) (K : Kn) (s : Shared) (Q : Flow → Shared → Prop) (E : Value → Shared → Prop), St C B mu K₀ fa ρ fo K st s.heap →
    (∀ f h' tk K' fa' fl ρ' fo' st', P fl ρ' fo' st' → KLe K K' → St C B mu K₀ fa' ρ' fo' K' st' h' → FlR C.hv K' f fl → Q f { s with heap := h', toks := tk }) → wpN (model C.prog C.w) C.A t Q E s
noncomputable abbrev ExN (C : Cx σ) (ρ : Ro) (fo : Option (List Dt)) (st : σ) (s : Stmt) (P : Post σ) : Prop := TsN C ρ fo st (exec s C.env) P
noncomputable abbrev ExsN (C : Cx σ) (ρ : Ro) (fo : Option (List Dt)) (st : σ) (ss : List Stmt) (P : Post σ) : Prop := TsN C ρ fo st (execs ss C.env) P
noncomputable def FnN (C : Cx σ) (f : Str) (ds : List Dt) (st : σ) (d : Dt) (st' : σ) : Prop :=
  ∃ (a : Addr) (o : Obj) (fd : FuncData), C.mg f = some (.ref a) ∧ C.g₀.get? a = some o ∧ o.data = .func fd ∧
    ∀ (B : Heap) (mu : List Addr) (K₀ : Kn) (fa : Addr) (ρ : Ro) (fo : Option (List Dt)) (K : Kn) (s : Shared) (vs : List Value) (Q E : Value → Shared → Prop), St C B mu K₀ fa ρ fo K st s.heap → Rds C.hv K vs ds →
      (∀ v h' tk K', KLe K K' → St C B mu K₀ fa ρ fo K' st' h' → Rd C.hv K' v d → Q v { s with heap := h', toks := tk }) → wpN (model C.prog C.w) C.A (call (.ref a) vs) Q E s
end
section
variable {σ : Type} {C : Cx σ} {ρ ρ' ρ₁ ρ₂ : Ro} {fo fo' : Option (List Dt)} {ds es : List Dt} {st st1 st2 st3 : σ} {P P' : Post σ} {B : Heap} {mu : List Addr} {K₀ : Kn} {fa : Addr} {K : Kn} {h h' : Heap} {e : Expr} {d : Dt} {b : Bool}
theorem Ev.n (he : Ev C ρ fo st e d st1) : EvN C ρ fo st e d st1 := fun B mu K₀ fa K s Q E S q => nOf (he B mu K₀ fa K s Q E S q)
theorem Ex.n {s : Stmt} (he : Ex C ρ fo st s P) : ExN C ρ fo st s P := fun B mu K₀ fa K s Q E S q => nOf (he B mu K₀ fa K s Q E S q)
theorem Exs.n {s : List Stmt} (he : Exs C ρ fo st s P) : ExsN C ρ fo st s P := fun B mu K₀ fa K s Q E S q => nOf (he B mu K₀ fa K s Q E S q)
theorem FnOk.n {f : Str} (ho : FnOk C f ds st d st1) : FnN C f ds st d st1 := by
  obtain ⟨a, o, fd, h1, h2, h3, h4⟩ := ho
  exact ⟨a, o, fd, h1, h2, h3, fun B mu K₀ fa ρ fo K s vs Q E S r q => nOf (h4 B mu K₀ fa ρ fo K s vs Q E S r q)⟩
theorem EsN.nil : EsN C ρ fo st [] [] st := fun pos B mu K₀ fa K s Q E S h => nSplicedNil (h [] s.heap s.toks K (.refl _) S .nil)
theorem EsN.cons {rest : List Expr} (he : EvN C ρ fo st e d st1) (hr : EsN C ρ fo st1 rest ds st2) (hs : noStar e = true := by rfl) : EsN C ρ fo st (e :: rest) (d :: ds) st2 := by
  intro pos B mu K₀ fa K s Q E S h
  rw [starEach_cons hs]
  exact nSplicedCons (he B mu K₀ fa K s _ E S fun v h1 tk1 K1 k1 S1 r1 => hr pos B mu K₀ fa K1 _ _ E S1 fun vs h2 tk2 K2 k2 S2 r2 => h (v :: vs) h2 tk2 K2 (k1.trans k2) S2 (.cons (r1.mono k2) r2))
theorem EvN.bin {l r : Expr} {op : Operator} {pos : Pos} {a b d : Dt} (hl : EvN C ρ fo st l a st1) (hr : EvN C ρ fo st1 r b st2) (ho : BinR op a b d) : EvN C ρ fo st (.BinOp l op r pos) d st2 :=
  fun B mu K₀ fa K s Q E S h => nBinOp (hl B mu K₀ fa K s _ E S fun u h1 tk1 K1 k1 S1 r1 => hr B mu K₀ fa K1 _ _ E S1 fun v h2 tk2 K2 k2 S2 r2 =>
    binop_sound ho S2 (r1.mono k2) r2 fun w h3 tk3 K3 k3 S3 r3 => h w h3 tk3 K3 ((k1.trans k2).trans k3) S3 r3)
theorem EvN.cmp {l r : Expr} {op : CmpOp} {pos : Pos} {a b : Dt} {c : Bool} (hl : EvN C ρ fo st l a st1) (hr : EvN C ρ fo st1 r b st2) (ho : CmpR op a b c) (hm : behindInMarks op r = false := by rfl) : EvN C ρ fo st (.Compare l [op] [r] pos) (.bool c) st2 :=
  fun B mu K₀ fa K s Q E S h => nCompare1 (hl B mu K₀ fa K s _ E S fun u h1 tk1 K1 k1 S1 r1 => hr B mu K₀ fa K1 _ _ E S1 fun v h2 tk2 K2 k2 S2 r2 => cmp_sound ho S2 (r1.mono k2) r2 (h _ h2 _ K2 (k1.trans k2) S2 (.bool _))) hm
theorem TstN.cmp {l r : Expr} {op : CmpOp} {pos : Pos} {a b : Dt} {c : Bool} (hl : EvN C ρ fo st l a st1) (hr : EvN C ρ fo st1 r b st2) (ho : CmpR op a b c) (hm : behindInMarks op r = false := by rfl) : TstN C ρ fo st (.Compare l [op] [r] pos) c st2 :=
  fun B mu K₀ fa K s Q E S h => nTrueCompare1 (hl B mu K₀ fa K s _ E S fun u h1 tk1 K1 k1 S1 r1 => hr B mu K₀ fa K1 _ _ E S1 fun v h2 tk2 K2 k2 S2 r2 => cmp_sound ho S2 (r1.mono k2) r2 (wpAny_truthy_bool (h h2 _ K2 (k1.trans k2) S2))) hm
theorem CallR.kind {v : Value} (ho : CallR v ds d) : (∃ T, v = .type T) ∨ ∃ T, v = .builtin T := by
  cases ho <;> first | exact Or.inl ⟨_, rfl⟩ | exact Or.inr ⟨_, rfl⟩
theorem EvN.callB {f : Str} {p pos : Pos} {args : List Expr} {v : Value} (hf : builtF.lookup f = some v) (ha : EsN C ρ fo st args ds st1) (ho : CallR v ds d) (hk : C.env.kindOf f = some .globalImplicit := by rfl) (hs : noStars args = true := by rfl)
    (hd : (f == ("__debug__" : Str)) = false := by decide) : EvN C ρ fo st (.Call (.Name f p) args [] pos) d st1 :=
  fun B mu K₀ fa K s Q E S h => nCallName (nOf (S.builtName hk (S.ok.bl f v hf).1 (S.ok.bl f v hf).2 (by
    have go : wpN (model C.prog C.w) C.A (spliced (backTo pos (starEach args C.env))) (fun vs s' => wpN (model C.prog C.w) C.A (call v vs []) Q E s') E s :=
      ha pos B mu K₀ fa K s _ E S fun vs h1 tk1 K1 k1 S1 r1 => nOf (call_sound (s := { s with heap := h1, toks := tk1 }) ho S1 r1 fun w h2 tk2 K2 k2 S2 r2 => h w h2 tk2 K2 (k1.trans k2) S2 r2)
    rcases ho.kind with ⟨T, rfl⟩ | ⟨T, rfl⟩
    · exact nCallType (any_star hs) go
    · exact nCallBuiltin (any_star hs) go) hd))
theorem EvN.callF {f : Str} {p pos : Pos} {args : List Expr} (ha : EsN C ρ fo st args ds st1) (ho : FnN C f ds st1 d st2) (hk : C.env.kindOf f = some .globalImplicit := by rfl) (hs : noStars args = true := by rfl)
    (hd : (f == ("__debug__" : Str)) = false := by decide) : EvN C ρ fo st (.Call (.Name f p) args [] pos) d st2 :=
  fun B mu K₀ fa K s Q E S h => by
    obtain ⟨a, o, fd, h1, h2, h3, h4⟩ := ho
    refine nCallName (nOf (S.globName hk h1 (nCallFun (o := o) (fd := fd) (any_star hs) (ha pos B mu K₀ fa K s _ E S fun vs h1 tk1 K1 k1 S1 r1 => ⟨⟨S1.gk _ _ h2, h3⟩, ?_⟩)) hd))
    exact h4 B mu K₀ fa ρ fo K1 { s with heap := h1, toks := tk1 } vs Q E S1 r1 fun w h2 tk2 K2 k2 S2 r2 => h w h2 tk2 K2 (k1.trans k2) S2 r2
theorem ExsN.cons {s : Stmt} {rest : List Stmt} (h : ExN C ρ fo st s (fun fl ρ' fo' st' => match fl with | .next => ExsN C ρ' fo' st' rest P | fl => P fl ρ' fo' st')) : ExsN C ρ fo st (s :: rest) P :=
  fun B mu K₀ fa K s Q E S q => nExecsCons (h B mu K₀ fa K s _ E S fun f h1 tk1 K1 fa1 fl ρ1 fo1 st1 p k1 S1 r1 => by
    cases fl with
    | next =>
      cases f with
      | next => exact p B mu K₀ fa1 K1 _ Q E S1 fun f h2 tk2 K2 fa2 fl ρ2 fo2 st2 p2 k2 S2 r2 => q f h2 tk2 K2 fa2 fl ρ2 fo2 st2 p2 (k1.trans k2) S2 r2
      | _ => cases r1
    | brk =>
      cases f with
      | brk => exact q .brk h1 tk1 K1 fa1 .brk ρ1 fo1 st1 p k1 S1 r1
      | _ => cases r1
    | ret d =>
      cases f with
      | ret v => exact q (.ret v) h1 tk1 K1 fa1 (.ret d) ρ1 fo1 st1 p k1 S1 r1
      | _ => cases r1)
theorem ExN.ret {pos : Pos} (he : EvN C ρ fo st e d st1) (h : P (.ret d) ρ fo st1) : ExN C ρ fo st (.Return (some e) pos) P :=
  fun B mu K₀ fa K s Q E S q => nReturn (he B mu K₀ fa K s _ E S fun v h1 tk1 K1 k1 S1 r1 => q (.ret v) h1 tk1 K1 fa _ ρ fo st1 h k1 S1 r1)
theorem ExN.assign {x : Str} {p pos : Pos} {value : Expr} (hv : EvN C ρ fo st value d st1) (hx : stor C x) (hne : x ≠ fnd ∨ fo = none) (hs : Ro.set ρ x d = some ρ') (h : P .next ρ' fo st1)
    (hsw : swapsWith value (some (.Name x p)) pos.line C.env = pure false := by rfl) : ExN C ρ fo st (.Assign [.Name x p] value pos) P :=
  fun B mu K₀ fa K s Q E S q => nAssign (hv B mu K₀ fa K s _ E S fun v h1 tk1 K1 k1 S1 r1 => S1.store (s := { s with heap := h1, toks := tk1 }) hx r1 hs hne fun h2 tk2 S2 => q .next h2 tk2 K1 fa .next ρ' fo st1 h k1 S2 trivial) hsw
theorem FnN.of_body {i : Nat} {n : Str} {ps : List (Str × Dt)} (W : Wd C) (hn : dN i = n) (hne : n ≠ "") (hl : 1 ≤ C.lv) (hs : sigOk (dS i) (ps.map (·.1)) = true)
    (hb : ∀ pm cd doc (vs : List Value), vs.length = ps.length → bindArgs (Calls.docDef n (dP i) (dB i) (dS i) pm cd doc) ⟨vs, []⟩ = pure ((ps.map (·.1)).zip vs))
    (body : ∀ L a cd, ExsN (C.callee n (dS i) L a cd) (ro0 (dS i) ps) none st (dB i) (fun fl _ _ st' => fl = .ret d ∧ st' = st1)) : FnN C n (ps.map (·.2)) st d st1 := by
  obtain ⟨a, o, pm, cd, doc, h1, h2, h3, h4⟩ := W.fn i n hn hne
  refine ⟨a, o, _, h1, h2, h3, fun B mu K₀ fa ρ fo K s vs Q E S r q => ?_⟩
  have hs' := hs
  unfold sigOk at hs'
  simp only [Bool.and_eq_true] at hs'
  obtain ⟨⟨⟨⟨⟨s1, s2⟩, s3⟩, s4⟩, s5⟩, s6⟩ := hs'
  have hlen : vs.length = ps.length := by rw [r.length]; simp
  have hroom : C.A.depth < recursionLimit := by have := S.ok.room.1; omega
  refine nCall (cCallCells (binds := (ps.map (·.1)).zip vs) hroom (S.gk _ _ h2) h3 (W.nl.keeps S.gk) (h4.keeps S.gk) rfl (hb pm cd doc vs hlen) rfl (fun x hx => ?_) (fun s₁ XC => ?_) (by simpa using s4 : (dS i).isCoroutine = false) (by simpa using s5 : (dS i).isGenerator = false) (by simpa using s6 : (dS i).kind = .function))
  · have hx' : x.1 ∈ ps.map (·.1) := by
      have : x.1 ∈ ((ps.map (·.1)).zip vs).map (·.1) := List.mem_map.mpr ⟨x, hx, rfl⟩
      rwa [zip_keys (by rw [hlen]; simp)] at this
    have := List.all_eq_true.mp s3 x.1 hx'
    rw [Bool.or_eq_true] at this
    rcases this with q | q
    · exact Or.inl (by simpa using q : (dS i).names.lookup x.1 = some .local)
    · have q' : (dS i).names.lookup x.1 = some .cell := by simpa using q
      obtain ⟨c, hc⟩ := cellsFrom_has (lo := s.heap.objs.size + 1) (acc := []) (mem_of_lookup q')
      exact Or.inr ⟨q', lookup_isSome hc⟩
  · obtain ⟨h₁, tk, rfl, _⟩ := XC.done
    have S1 := S.start (n := n) (a := a) (cd := cd) hl hs r ⟨XC.toInCall.ns, XC.toInCall.keep, XC.toInCall.fresh⟩ ⟨XC.cell, XC.apart, XC.above⟩
    refine body s.heap.objs.size a cd s.heap [] K 0 K { s with heap := h₁, toks := tk } _ (fun _ _ => False) S1 fun f h' tk' K' fa' fl ρ' fo' st' p k S' r' => ?_
    obtain ⟨rfl, rfl⟩ := p
    cases f with
    | ret v => exact q v h' tk' K' k (S.home (C' := C.callee n (dS i) s.heap.objs.size a cd) k rfl rfl rfl S') r'
    | _ => cases r'
end
end Mine
end
section
open PySem PyProof.Rows
set_option linter.unusedVariables false
set_option linter.unusedSimpArgs false
namespace Mine
section
variable {σ : Type} {C : Cx σ} {ρ ρ' ρ₁ ρ₂ : Ro} {fo fo' : Option (List Dt)} {ds es : List Dt} {st st1 st2 st3 : σ} {P P' : Post σ} {B : Heap} {mu : List Addr} {K₀ : Kn} {fa : Addr} {K : Kn} {h h' : Heap} {e : Expr} {d d' : Dt} {b b' : Bool} {scope : Scope}
theorem EvN.as (h : EvN C ρ fo st e d st1) (hb : d = d') : EvN C ρ fo st e d' st1 := hb ▸ h
theorem TsN.mono {t : Sem Flow} (h : TsN C ρ fo st t P) (hp : ∀ fl ρ' fo' st', P fl ρ' fo' st' → P' fl ρ' fo' st') : TsN C ρ fo st t P' :=
  fun B mu K₀ fa K s Q E S q => h B mu K₀ fa K s Q E S fun f h' tk K' fa' fl ρ' fo' st' p => q f h' tk K' fa' fl ρ' fo' st' (hp _ _ _ _ p)
theorem EvN.bool1 {op : BoolOp} {pos : Pos} (he : EvN C ρ fo st e d st1) : EvN C ρ fo st (.BoolOp op [e] pos) d st1 := he
theorem nAnd {M : Model} {A : Around} {E : Value → Shared → Prop} {s : Shared} {env : Env} {e₁ e₂ : Expr} {rest : List Expr} {pos : Pos} {Q : Value → Shared → Prop}
    (h : wpN M A (eval e₁ env) (fun v s₁ => wpAny M A (truthy v) (fun c s₂ => if c then wpN M A (eval (.BoolOp .And (e₂ :: rest) pos) env) Q E s₂ else Q v s₂) E s₁) E s) :
    wpN M A (eval (.BoolOp .And (e₁ :: e₂ :: rest) pos) env) Q E s := by
  show wpN M A (do
    let v ← eval e₁ env
    standAt pos
    let c ← holding [v] (truthy v)
    match BoolOp.And, c with
    | .And, false | .Or, true => pure v
    | _, _ => boolOp pos .And (eval e₂ env :: evalEach rest env)) Q E s
  refine nBind (nMono h (fun v s₁ h₁ => nThen (wpAny_standAt (nThen (wpAny_holding (wpAny_mono h₁ (fun c s₂ h₂ => ?_) fun _ _ x => x))))) fun _ _ x => x)
  cases c with
  | false => exact nPure h₂
  | true => exact h₂
theorem EvN.and_t {e₁ e₂ : Expr} {rest : List Expr} {pos : Pos} (hx : EvN C ρ fo st e₁ (.bool true) st1) (hr : EvN C ρ fo st1 (.BoolOp .And (e₂ :: rest) pos) d st2) : EvN C ρ fo st (.BoolOp .And (e₁ :: e₂ :: rest) pos) d st2 :=
  fun B mu K₀ fa K s Q E S h => nAnd (hx B mu K₀ fa K s _ E S fun u h1 tk1 K1 k1 S1 r1 => by
    rw [r1.bool_inv]
    refine wpAny_truthy_bool ?_
    rw [if_pos rfl]
    exact hr B mu K₀ fa K1 _ _ E S1 fun v h2 tk2 K2 k2 S2 r2 => h v h2 tk2 K2 (k1.trans k2) S2 r2)
/-- what a loop takes its items from, in calm contexts -/
noncomputable def ItN (C : Cx σ) (ρ : Ro) (fo : Option (List Dt)) (st : σ) (e : Expr) (ds : List Dt) (st' : σ) : Prop :=
  ∀ (B : Heap) (mu : List Addr) (K₀ : Kn) (fa : Addr) (K : Kn) (s : Shared) (Q E : Value → Shared → Prop), St C B mu K₀ fa ρ fo K st s.heap →
    (∀ (I : Addr) (h' : Heap) (tk : Nat) (K' : Kn) (fp' : List Addr) (P : Nat → Value → Prop) (Stt : Nat → Heap → Prop), KLe K K' → St C B mu K₀ fa ρ fo K' st' h' → Walks C.prog C.w C.A I fp' [I] ds.length P Stt → Stt 0 h' →
      (∀ b ∈ fp', (h'.get? b).isSome = true ∧ b ∉ ownL C fa fo ++ C.fp) → K' I = none ∧ B.get? I = none → (∀ i v, i < ds.length → P i v → ∃ d, ds[i]? = some d ∧ Rd C.hv K' v d) → (∀ i h, Stt i h → plainIt h I) → ds.length ≤ lim →
      Q (.ref I) { s with heap := h', toks := tk }) →
    wpN (model C.prog C.w) C.A (eval e C.env) (fun x s₁ => wpAny (model C.prog C.w) C.A (pyIter x) Q E s₁) E s
theorem It.n (hi : It C ρ fo st e ds st1) : ItN C ρ fo st e ds st1 := fun B mu K₀ fa K s Q E S q => nOf (hi B mu K₀ fa K s Q E S q)
theorem ItN.range2 {p pos : Pos} {e1 e2 : Expr} {a b : Int} (ha : EsN C ρ fo st [e1, e2] [.int a, .int b] st1) (ha' : a.natAbs ≤ 1000000) (hb' : b.natAbs ≤ 1000000) (hk : C.env.kindOf "range" = some .globalImplicit := by rfl) (hs : noStars [e1, e2] = true := by rfl) :
    ItN C ρ fo st (.Call (.Name "range" p) [e1, e2] [] pos) (ranD a 1 (b - a).toNat) st1 :=
  fun B mu K₀ fa K s Q E S h => nCallName (nOf (S.builtName hk (S.ok.bl "range" (.type "range") rfl).1 (S.ok.bl "range" (.type "range") rfl).2 (nCallType (any_star hs) (ha pos B mu K₀ fa K s _ E S fun vs h1 tk1 K1 k1 S1 r1 => by
    obtain ⟨v, r, u, r', rfl⟩ := r1.two
    obtain ⟨t, rfl⟩ := r.int_inv
    obtain ⟨t', rfl⟩ := r'.int_inv
    refine nOf (call_range_2 (s := { s with heap := h1, toks := tk1 }) ?_)
    have S2 := S1.pushed { cls := .type "range", data := .fields #[.int a t, .int b t', .int 1 tk1] }
    refine It.ofRange (s := ⟨h1.push { cls := .type "range", data := .fields #[.int a t, .int b t', .int 1 tk1] }, _, _, _, _⟩) S2 (IsRange.new h1 a b 1 t t' tk1) (small_ok (by omega) (by omega) (Or.inl rfl)) (n := (b - a).toNat) ?_ (by unfold lim; omega) (fun I h' tk K' fp' P Stt k' S' W w0 w1 w2 w3 w4 w5 => h I h' tk K' fp' P Stt (k1.trans k') S' W w0 w1 w2 w3 w4 w5)
    rw [rangeSize_one]
    split <;> omega)) (by decide)))
theorem ExN.for {target iter : Expr} {body : List Stmt} {pos : Pos} (hit : ItN C ρ fo st iter ds st1) (J : List Dt → Ro → Option (List Dt) → σ → Prop) (h0 : J [] ρ fo st1)
    (turn : ∀ pre d post ρ fo st, ds = pre ++ d :: post → J pre ρ fo st → ∃ ρ₁, Bind C fo target d ρ ρ₁ ∧ ExsN C ρ₁ fo st body (fun fl ρ' fo' st' => match fl with | .next => J (pre ++ [d]) ρ' fo' st' | .brk => P .next ρ' fo' st' | .ret r => P (.ret r) ρ' fo' st'))
    (done : ∀ ρ fo st, J ds ρ fo st → P .next ρ fo st) (hs : noSet iter = true := by rfl) : ExN C ρ fo st (.For target iter body [] pos) P :=
  fun B mu K₀ fa K s Q E S q => nFor (hit B mu K₀ fa K s _ E S fun I h1 tk1 K1 fp' PP Stt k1 S1 W w0 w1 w2 w3 w4 w5 => by
    refine cForLoop (FInv C B mu K₀ ds s K1 I fp' Stt J) ?_ (ds.length + 1)
      (.mk 0 h1 tk1 fa ρ fo st1 K1 (Nat.zero_le _) (.refl _) w2.1 S1 w0 w1 (by simpa using h0))
    rintro n s' ⟨i, h', tk, fa', ρ', fo', st', K', hi, kk, kI, S', hst, hfp, hJ⟩
    have If : I ∈ fp' := W.sub I (by simp)
    by_cases hlt : i < ds.length
    · refine W.item i { s with heap := h', toks := tk } _ _ hlt hst fun v h2 tk2 hP hst2 hk2 => ?_
      have S2 := S'.walked hk2 ⟨kI, w2.2⟩ (hfp I If).2 (w4 _ _ hst)
      refine letOwned_plain (s := { s with heap := h2, toks := tk2 }) (w4 _ _ hst2) ?_
      obtain ⟨d, hd, rd⟩ := w3 i v hlt hP
      obtain ⟨es, et⟩ := take_split hd
      have fp2 : ∀ b ∈ fp', (h2.get? b).isSome = true ∧ b ∉ ownL C fa' fo' ++ C.fp := fun b hb => by
        refine ⟨?_, (hfp b hb).2⟩
        by_cases e : b = I
        · obtain ⟨o, _, ho, _⟩ := w4 _ _ hst2
          rw [e, ho]; rfl
        · obtain ⟨o, ho⟩ := Option.isSome_iff_exists.mp (hfp b hb).1
          rw [hk2 b o (by simpa using e) ho]; rfl
      obtain ⟨ρ₁, hb, hbody⟩ := turn _ d _ ρ' fo' st' es hJ
      refine hb.go (s := { s with heap := h2, toks := tk2 }) S2.rebase (rd.mono kk) fun h3 tk3 S3 => ?_
      refine hbody h2 (ownL C fa' fo') K' fa' K' { s with heap := h3, toks := tk3 } _ _ S3 fun f h4 tk4 K4 fa4 fl ρ4 fo4 st4 p4 k4 S4 r4 => ?_
      obtain ⟨g1, g2, g3⟩ := S4.stood (B := B) fp2 kI If
      have S5 := S2.back S4
      cases f with
      | next =>
        cases fl with
        | next => exact ⟨ds.length + 1 - (i + 1), by omega, .mk (i + 1) h4 tk4 fa4 ρ4 fo4 st4 K4 hlt (kk.trans k4) g3 S5 (W.frame _ _ _ hst2 g1) g2 (by rw [et]; exact p4)⟩
        | brk => cases r4
        | ret d => cases r4
      | brk =>
        cases fl with
        | next => cases r4
        | brk => exact q .next h4 tk4 K4 fa4 .next ρ4 fo4 st4 p4 ((k1.trans kk).trans k4) S5 trivial
        | ret d => cases r4
      | cont => cases fl <;> cases r4
      | ret v =>
        cases fl with
        | next => cases r4
        | brk => cases r4
        | ret d => exact q (.ret v) h4 tk4 K4 fa4 (.ret d) ρ4 fo4 st4 p4 ((k1.trans kk).trans k4) S5 r4
    · have hin : i = ds.length := by omega
      subst hin
      refine W.done { s with heap := h', toks := tk } _ _ hst fun h2 tk2 hk2 => wpAny_execs_nil ?_
      have S2 := S'.walked hk2 ⟨kI, w2.2⟩ (hfp I If).2 (w4 _ _ hst)
      rw [List.take_length] at hJ
      exact q .next h2 tk2 K' fa' .next ρ' fo' st' (done _ _ _ hJ) (k1.trans kk) S2 trivial)
    (fun x => folded_ok hs _ _)
theorem ExN.forM {α : Type} {f : α → Dt} {xs : List α} {target iter : Expr} {body : List Stmt} {pos : Pos} (hit : ItN C ρ fo st iter (xs.map f) st1) (J : List α → Ro → Option (List Dt) → σ → Prop) (h0 : J xs ρ fo st1)
    (turn : ∀ x r ρ fo st, J (x :: r) ρ fo st → ∃ ρ₁, Bind C fo target (f x) ρ ρ₁ ∧ ExsN C ρ₁ fo st body (fun fl ρ' fo' st' => match fl with | .next => J r ρ' fo' st' | .brk => P .next ρ' fo' st' | .ret r => P (.ret r) ρ' fo' st'))
    (done : ∀ ρ fo st, J [] ρ fo st → P .next ρ fo st) (hs : noSet iter = true := by rfl) : ExN C ρ fo st (.For target iter body [] pos) P := by
  refine ExN.for hit (fun pre ρ fo st => ∃ d r, xs = d ++ r ∧ pre = d.map f ∧ J r ρ fo st) ⟨[], xs, rfl, rfl, h0⟩ (fun pre d post ρ fo st e ⟨dn, r, h1, h2, hJ⟩ => ?_) (fun ρ fo st ⟨dn, r, h1, h2, hJ⟩ => ?_) hs
  · rw [h1, List.map_append, h2] at e
    have e' := List.append_cancel_left e
    cases r with
    | nil => cases e'
    | cons x r =>
      rw [List.map_cons] at e'
      cases e'
      obtain ⟨ρ₁, hb, hx⟩ := turn x r ρ fo st hJ
      refine ⟨ρ₁, hb, TsN.mono hx fun fl ρ' fo' st' p => ?_⟩
      cases fl with
      | next => exact ⟨dn ++ [x], r, by rw [h1]; simp, by rw [h2]; simp, p⟩
      | brk => exact p
      | ret r => exact p
  · rw [h1, List.map_append] at h2
    have : r.map f = [] := List.append_right_eq_self.mp h2
    have : r = [] := by simpa using this
    subst this
    exact done ρ fo st hJ
noncomputable def TifN (C : Cx σ) (ρ : Ro) (st : σ) (ifs : List Expr) (b : Bool) (st' : σ) : Prop :=
  TbN C ρ none st (forIn ifs true fun c r => if r = true then do let ok ← isTrue c C.env (eval c C.env); pure (ForInStep.yield ok) else pure (ForInStep.yield r)) b st'
theorem TifN.one {c : Expr} {b : Bool} (hc : TstN C ρ none st c b st1) : TifN C ρ st [c] b st1 := fun B mu K₀ fa K s Q E S h => by
  rw [List.forIn_cons]
  simp only [if_true]
  refine nBind (nBind (hc B mu K₀ fa K s _ E S fun h1 tk1 K1 k1 S1 => nPure ?_))
  show wpN _ _ (forIn [] b _) Q E _
  rw [List.forIn_nil]
  exact nPure (h h1 tk1 K1 k1 S1)
noncomputable def CbN (C : Cx σ) (ρ : Ro) (scope : Scope) (target : Expr) (ifs : List Expr) (elt : Expr) (d : Dt) (o : Option Dt) (st st' : σ) : Prop :=
  ∀ L', ∃ ρ₁, Bind (C.comp scope L') none target d (compRo scope ρ) ρ₁ ∧ match o with
    | none => TifN (C.comp scope L') ρ₁ st ifs false st'
    | some e => ∃ st1, TifN (C.comp scope L') ρ₁ st ifs true st1 ∧ Ev (C.comp scope L') ρ₁ none st1 elt e st'
theorem compN_core {elt target iter : Expr} {ifs : List Expr} {pos : Pos} (hit : It C ρ fo st iter ds st1) (hcm : Cmp (CbN C ρ scope target ifs elt) ds st1 es st2) (hc : compOk C.env scope = true)
    (hfull : ∀ x c, C.env.cells.lookup x = some c → (x, c) ∈ C.stc) {s : Shared} {E : Value → Shared → Prop} {RR : Value → Addr → Result → Shared → Prop} (S : St C B mu K₀ fa ρ fo K st s.heap)
    (hRR : ∀ D L' h' tk K' m', KLe K K' → St C B mu K₀ fa ρ fo K' st2 h' → Rd C.hv K' (.ref D) (.lst es) → h'.Ns L' m' → (K' L' = none ∧ B.get? L' = none) → L' ∉ ownL C fa fo ++ C.fp → RR (.ref D) L' (.ok .next) { s with heap := h', toks := tk }) :
    wpAny (model C.prog C.w) C.A (eval iter C.env) (fun xv s₁ => wpAny (model C.prog C.w) C.A (pyIter xv) (fun it s₂ => wpAny (model C.prog C.w) C.A (newList []) (fun acc s₃ =>
      wpAny (model C.prog C.w) C.A (newFunctionEnv scope C.env.globals (closL C.env scope.names []) [] C.env.qual none .none (some C.env)) (fun cenv s₄ =>
        codeN (model C.prog C.w) C.A (.compStart (.ListComp elt [⟨target, iter, ifs, 0⟩] scope pos) 0 it acc { cenv with scope := relabel scope C.env }) (RR acc cenv.locals) s₄) E s₃) E s₂) E s₁) E s := by
  refine hit B mu K₀ fa K s _ E S fun I h1 tk1 K1 fp' PP Stt k1 S1 W w0 w1 w2 w3 w4 w5 => ?_
  refine wpAny_newObj_type (wpAny_newFunctionEnv (compOk_cell hc) (by intro y hy; simp at hy) (fun hB hns hsb => ?_) (compOk_kind hc))
  dsimp only at hns hsb ⊢
  generalize hD : h1.objs.size = D at hns hsb ⊢
  have hDn : h1.get? D = none := hD ▸ size_none h1
  generalize hH : h1.push { cls := .type "list", dict := none, data := .seq ([] : List Value).toArray } = H at hns hsb ⊢
  generalize hL : H.objs.size = L' at hns hsb ⊢
  have hLn : H.get? L' = none := hL ▸ size_none H
  have hHD : H.get? D = some (lobj [] 0) := by rw [← hH, ← hD]; exact Heap.get?_push_size _ rfl
  have SH : St C B mu K₀ fa ρ fo K1 st1 H := hH ▸ S1.pushed _
  have upH : ∀ b o, h1.get? b = some o → H.get? b = some o := fun b o e => hH ▸ Heap.get?_push_of_some _ e
  have upB : ∀ b o, H.get? b = some o → hB.get? b = some o := fun b o e => hsb.extBut b o (fun z => by rw [z, hLn] at e; cases e) (Heap.get?_push_of_some _ e)
  have SB : St C B mu K₀ fa ρ fo K1 st1 hB := SH.keeps upB
  obtain ⟨d1, d2, d3⟩ := S1.fresh_out hDn
  obtain ⟨l1, l2, l3⟩ := SH.fresh_out hLn
  have hDL : D ≠ L' := fun z => by rw [z, hLn] at hHD; cases hHD
  have fpH : ∀ b ∈ fp', b ≠ D ∧ b ≠ L' := fun b hb => by
    have x := (w1 b hb).1
    refine ⟨fun z => (by rw [z, hDn] at x; cases x), fun z => ?_⟩
    obtain ⟨o, ho⟩ := Option.isSome_iff_exists.mp x
    have := upH b o ho
    rw [z, hLn] at this; cases this
  have If : I ∈ fp' := W.sub I (by simp)
  have hst : Stt 0 hB := W.frame _ _ _ w0 fun b hb o e => upB _ _ (upH _ _ e)
  have loop : codeN (model C.prog C.w) C.A (.compLoop (.ListComp elt [⟨target, iter, ifs, 0⟩] scope pos) 0 (.ref I) (.ref D) (compEnvC scope (closL C.env scope.names []) L' C.env)) (RR (.ref D) L') { s with heap := hB, toks := tk1 + ([] : List (Str × Value)).length } := by
    refine cCompLoop (CInv C (CbN C ρ scope target ifs elt) B mu K₀ fa ρ fo ds es st2 s K1 I D L' fp' Stt) ?_ (ds.length + 1)
      (.mk 0 hB _ K1 st1 [] 0 _ [] es (Nat.zero_le _) (.refl _) w2.1 SB hst (fun b hb => by
        obtain ⟨o, ho⟩ := Option.isSome_iff_exists.mp (w1 b hb).1
        rw [upB _ _ (upH _ _ ho)]; rfl) (upB _ _ hHD) d1 hns l1 .nil rfl (by simpa using hcm))
    rintro n s' ⟨i, h', tk, K', st', vs, k, m', done, rest, hi, kk, kI, S', hst', hfp, hDh, kD, hm', kL, rdone, hes, hcm'⟩
    by_cases hlt : i < ds.length
    · refine W.item i { s with heap := h', toks := tk } _ _ hlt hst' fun v h2 tk2 hP hst2 hk2 => ?_
      have S2 := S'.walked hk2 ⟨kI, w2.2⟩ (w1 I If).2 (w4 _ _ hst')
      refine letOwned_plain (s := { s with heap := h2, toks := tk2 }) (w4 _ _ hst2) ?_
      obtain ⟨d, hd, rd⟩ := w3 i v hlt hP
      have edrop : ds.drop i = d :: ds.drop (i + 1) := by
        obtain ⟨hl, he⟩ := List.getElem?_eq_some_iff.mp hd
        rw [← he]; exact List.drop_eq_getElem_cons hl
      rw [edrop] at hcm'
      have fp2 : ∀ b ∈ fp', (h2.get? b).isSome = true := fun b hb => by
        by_cases e : b = I
        · obtain ⟨o, _, ho, _⟩ := w4 _ _ hst2
          rw [e, ho]; rfl
        · obtain ⟨o, ho⟩ := Option.isSome_iff_exists.mp (hfp b hb)
          rw [hk2 b o (by simpa using e) ho]; rfl
      have hDI : D ≠ I := fun z => (fpH I If).1 z.symm
      have hLI : L' ≠ I := fun z => (fpH I If).2 z.symm
      have hD2 : h2.get? D = some (lobj vs k) := hk2 D _ (by simpa using hDI) hDh
      have hm2 : h2.Ns L' m' := hm'.at' fun o e => hk2 _ o (by simpa using hLI) e
      have Lfp : L' ∉ C.fp := fun z => l3 (List.mem_append.mpr (.inr z))
      have Dfp : D ∉ C.fp := fun z => d3 (List.mem_append.mpr (.inr z))
      have SC := S2.enter (scope := scope) hc hm2 kL Lfp
      -- what a turn in the inner frame keeps
      have kept : ∀ {fa' K4 ρ4 st4 h4}, St (C.comp scope L') h2 [L'] K' fa' ρ4 none K4 st4 h4 → (∀ b ∈ fp', ∀ o, h2.get? b = some o → h4.get? b = some o) ∧ h4.get? D = some (lobj vs k) ∧ K4 I = none ∧ K4 D = none ∧ K4 L' = none ∧ ∃ m4, h4.Ns L' m4 := fun {fa' K4 ρ4 st4 h4} S4 => by
        have kn : ∀ a, (h2.get? a).isSome = true → a ≠ L' → K' a = none → K4 a = none := fun a ha hne hk => by
          cases e : K4 a with
          | none => rfl
          | some o =>
            rcases S4.kx a o e with w | w | w
            · rw [hk] at w; cases w
            · rw [w] at ha; cases ha
            · exact absurd (List.mem_singleton.mp w) hne
        refine ⟨fun b hb o e => S4.base b o e (by simpa using (fpH b hb).2) fun z => (w1 b hb).2 (List.mem_append.mpr (.inr z)), S4.base D _ hD2 (by simpa using hDL) Dfp, kn I (fp2 I If) hLI.symm kI, kn D (by rw [hD2]; rfl) hDL kD,
          (S4.mt L' (List.mem_append.mpr (.inl (by simp [ownL, Cx.comp, compEnvC])))).1, ?_⟩
        obtain ⟨m4, hm4, _⟩ := S4.fr
        exact ⟨m4, hm4⟩
      have some4 : ∀ {h4 : Heap}, (∀ b ∈ fp', ∀ o, h2.get? b = some o → h4.get? b = some o) → ∀ b ∈ fp', (h4.get? b).isSome = true := fun {h4} hk b hb => by
        obtain ⟨o, ho⟩ := Option.isSome_iff_exists.mp (fp2 b hb)
        rw [hk b hb o ho]; rfl
      cases hcm' with
      | drop hstep hrest =>
        obtain ⟨ρ₁, hb, hif⟩ := hstep L'
        refine hb.go (C := C.comp scope L') (s := { s with heap := h2, toks := tk2 }) SC (rd.mono kk) fun h3 tk3 S3 => ?_
        refine hif h2 [L'] K' _ K' { s with heap := h3, toks := tk3 } _ _ S3 fun h4 tk4 K4 k4 S4 => ?_
        rw [if_neg (by simp)]
        obtain ⟨g1, g2, g3, g4, g5, m4, g6⟩ := kept S4
        have S5 := S2.across hfull hm2 l2 l3 k4 S4
        exact ⟨ds.length + 1 - (i + 1), by omega, .mk (i + 1) h4 tk4 K4 _ vs k m4 done rest hlt (kk.trans k4) g3 S5 (W.frame _ _ _ hst2 g1) (some4 g1) g2 g4 g6 g5 (rdone.mono k4) hes hrest⟩
      | @keep _ e _ es' _ stm _ hstep hrest =>
        obtain ⟨ρ₁, hb, stq, hif, helt⟩ := hstep L'
        refine hb.go (C := C.comp scope L') (s := { s with heap := h2, toks := tk2 }) SC (rd.mono kk) fun h3 tk3 S3 => ?_
        refine hif h2 [L'] K' _ K' { s with heap := h3, toks := tk3 } _ _ S3 fun h4 tk4 K4 k4 S4 => ?_
        rw [if_pos rfl]
        refine helt h2 [L'] K' _ K4 { s with heap := h4, toks := tk4 } _ _ S4 fun x h5 tk5 K5 k5 S5 r5 => ?_
        obtain ⟨g1, g2, g3, g4, g5, m4, g6⟩ := kept S5
        have S6 := S2.across hfull hm2 l2 l3 (k4.trans k5) S5
        have hlen : done.length ≤ lim := by
          have a1 := hcm.len
          rw [hes, List.length_append] at a1
          omega
        refine append_exact (s := { s with heap := h5, toks := tk5 }) g2 (by rw [rdone.length]; exact hlen) fun h6 g7 hs6 => ?_
        have S7 := S6.off (h' := h6) (a := D) (fun b o hb e => hs6.extBut b o hb e) ⟨g4, d2⟩ d3 (fun v i => by obtain ⟨o, ho, hd⟩ := i; rw [g2] at ho; cases ho; cases hd)
        have g1' : ∀ b ∈ fp', ∀ o, h2.get? b = some o → h6.get? b = some o := fun b hb o e => hs6.extBut b o (fpH b hb).1 (g1 b hb o e)
        exact ⟨ds.length + 1 - (i + 1), by omega, .mk (i + 1) h6 tk5 K5 _ (vs ++ [x]) (k + 1) m4 (done ++ [e]) es' hlt ((kk.trans k4).trans k5) g3 S7 (W.frame _ _ _ hst2 g1') (some4 g1') g7 g4 (g6.sameBut hs6 hDL.symm) g5 ((rdone.mono (k4.trans k5)).append (.one r5)) (by rw [hes]; simp) hrest⟩
    · have hin : i = ds.length := by omega
      subst hin
      rw [List.drop_length] at hcm'
      generalize hst0 : st' = st0 at hcm'
      cases hcm'
      subst hst0
      refine W.done { s with heap := h', toks := tk } _ _ hst' fun h2 tk2 hk2 => ?_
      have S2 := S'.walked hk2 ⟨kI, w2.2⟩ (w1 I If).2 (w4 _ _ hst')
      have hDI : D ≠ I := fun z => (fpH I If).1 z.symm
      have hLI : L' ≠ I := fun z => (fpH I If).2 z.symm
      have hD2 : h2.get? D = some (lobj vs k) := hk2 D _ (by simpa using hDI) hDh
      obtain ⟨le, S3⟩ := S2.know hD2 ⟨kD, d2⟩ d3
      rw [List.append_nil] at hes
      refine hRR D L' h2 tk2 _ m' ((k1.trans kk).trans le) S3 (.lst (kadd_self ..) rfl rfl ?_ (hes ▸ rdone.mono le)) (hm'.at' fun o e => hk2 _ o (by simpa using hLI) e) ⟨?_, l2⟩ l3
      · exact Nat.le_trans hcm.len w5
      · unfold kadd
        rw [if_neg (Ne.symm hDL)]; exact kL
  exact cCompStart loop (W.self 0 _ _ _ hst loop)
theorem ExN.assignComp {elt target iter : Expr} {ifs : List Expr} {cpos pos py : Pos} {y : Str} (hit : It C ρ fo st iter ds st1) (hcm : Cmp (CbN C ρ scope target ifs elt) ds st1 es st2) (hfull : ∀ x c, C.env.cells.lookup x = some c → (x, c) ∈ C.stc)
    (hy : stor C y) (hne : y ≠ fnd ∨ fo = none) (hsr : Ro.set ρ y (.lst es) = some ρ') (h : P .next ρ' fo st2)
    (hc : compOk C.env scope = true := by rfl) (hs : noSet iter = true := by rfl) (hsw : swapsWith (.ListComp elt [⟨target, iter, ifs, 0⟩] scope cpos) (some (Expr.Name y py)) pos.line C.env = pure true := by rfl) :
    ExN C ρ fo st (.Assign [Expr.Name y py] (.ListComp elt [⟨target, iter, ifs, 0⟩] scope cpos) pos) P :=
  fun B mu K₀ fa K s Q E S q => by
    show wpN _ _ (exec (.Assign [Expr.Name y py] (.ListComp elt [⟨target, iter, ifs, 0⟩] scope cpos) pos) C.env) Q E s
    rw [exec_Assign_Name_used _ _ _ _ hsw]
    refine nThen (wpAny_standAt (nBind ?_))
    show wpN _ C.A (do let _ ← comprehension (.ListComp elt [⟨target, iter, ifs, 0⟩] scope cpos) scope C.env _ (newList []) false (eval iter C.env) (some (PySem.assign (Expr.Name y py) C.env))) _ _ s
    refine nBind (nMono (nComprehension (u := PySem.assign (Expr.Name y py) C.env) (Q := fun _ s' => Q .next s') rfl (fun x => folded_ok hs _ _) (compOk_clos hc) (compOk_kind hc) (compOk_local hc)
      (nOf (compN_core (RR := fun acc L' => nPost (model C.prog C.w) C.A E (PySem.assign (Expr.Name y py) C.env) (fun _ s' => Q .next s') acc L') hit hcm hc hfull S fun D L' h' tk K' m' k S' r hm' hw hn => ?_)))
      (fun _ s' hq => nPure (nPure hq)) fun _ _ e => e)
    show wpAny _ _ (PySem.assign (Expr.Name y py) C.env (.ref D)) _ _ _
    refine wpAny_assign_Name (S'.storeAny (s := { s with heap := h', toks := tk }) hy fun h2 tk2 keep _ g => ?_)
    have S2 := g ρ' (fun z e' he' => by
      rw [Ro.get_set hsr] at he'
      by_cases hz : z = y
      · rw [if_pos hz] at he' ⊢; cases he'; exact r
      · rw [if_neg hz] at he' ⊢; exact he') hne
    have hm2 : h2.Ns L' m' := hm'.at' fun o e => keep _ o e fun z => hn (List.mem_append.mpr (.inl z))
    exact ⟨m', hm2, fun h'' hs'' => q .next h'' tk2 K' fa .next ρ' fo st2 h k (S2.off (a := L') (fun b o hb e => hs''.extBut b o hb e) hw hn fun v i => cell_ne hm2 i rfl) trivial⟩
end
end Mine
end
section
open PySem PyProof.Rows
set_option linter.unusedVariables false
set_option linter.unusedSimpArgs false
namespace Mine
/-- a bytearray of our own beside the frame -/
noncomputable def Cx.ba {σ : Type} (C : Cx σ) (D : Addr) : Cx (σ × List UInt8) :=
  { lv := C.lv, prog := C.prog, w := C.w, A := C.A, env := C.env, g₀ := C.g₀, mg := C.mg, mb := C.mb, stc := C.stc, hv := fun k => if k = 7 then .ref D else C.hv k, fp := D :: C.fp, Sg := fun p h => C.Sg p.1 h ∧ h.get? D = some (baObj p.2.toArray) }
section
variable {σ : Type} {C : Cx σ} {ρ ρ' : Ro} {fo : Option (List Dt)} {D : Addr} {l : List UInt8} {B : Heap} {mu : List Addr} {K₀ : Kn} {fa : Addr} {K : Kn} {h h' : Heap} {st : σ} {e ie : Expr} {pos : Pos}
theorem St.toB (S : St C B mu K₀ fa ρ none K st h) (hx : h.get? D = some (baObj l.toArray)) (kx : K D = none) (nx : D ∉ ownL C fa none ++ C.fp)
    (ncell : ∀ y c, C.env.cells.lookup y = some c → c ∈ ownL C fa none) (hre : ∀ y d, ρ.get y = some d → noHd d = true) : St (C.ba D) B mu K₀ fa ρ none K (st, l) h := by
  obtain ⟨m, hm, hr, hf⟩ := S.fr
  have o := S.ok
  have eo : ownL (C.ba D) fa none = ownL C fa none := rfl
  have nx1 : D ∉ ownL C fa none := fun z => nx (List.mem_append.mpr (.inl z))
  have nx2 : D ∉ C.fp := fun z => nx (List.mem_append.mpr (.inr z))
  exact {
    ok := {
      hh := o.hh
      room := o.room
      bl := o.bl
      kind := o.kind
      glob := o.glob
      bui := o.bui
      g := o.g
      b := o.b
      sgk := fun st h h' k s => ⟨o.sgk _ _ _ (fun a ha e => k a (List.mem_cons_of_mem _ ha) e) s.1, k D List.mem_cons_self _ s.2⟩
      cl := o.cl
      ci := o.ci
      cf := fun y c hy hm' => by
        have hm'' : c ∈ D :: C.fp := hm'
        rcases List.mem_cons.mp hm'' with rfl | hm''
        · exact nx1 (ncell y c hy)
        · exact o.cf y c hy hm'' }
    base := fun b o e hb hf' => S.base b o e hb fun z => hf' (List.mem_cons_of_mem _ z)
    ex := S.ex
    kx := S.kx
    kn := S.kn
    top := S.top
    mt := fun a ha => by
      rw [eo] at ha
      rcases List.mem_append.mp ha with ha | ha
      · exact S.mt a (List.mem_append.mpr (.inl ha))
      · have ha' : a ∈ D :: C.fp := ha
        rcases List.mem_cons.mp ha' with rfl | ha'
        · exact ⟨kx, by rw [hx]; rfl⟩
        · exact S.mt a (List.mem_append.mpr (.inr ha'))
    ow := S.ow
    nd := by
      have nd := S.nd
      rw [eo]
      show (ownL C fa none ++ (D :: C.fp)).Nodup
      rw [List.nodup_append] at nd ⊢
      refine ⟨nd.1, List.nodup_cons.mpr ⟨nx2, nd.2.1⟩, fun a ha b hb e => ?_⟩
      rcases List.mem_cons.mp hb with rfl | hb
      · exact nx1 (e ▸ ha)
      · exact nd.2.2 a ha b hb e
    fr := ⟨m, hm, fun y d e => by
      obtain ⟨v, l', r⟩ := hr y d e
      exact ⟨v, l', r.rehv (hre y d e)⟩, fun _ e => by cases e⟩
    fl := fun _ e => by cases e
    ce := S.ce
    sg := ⟨S.sg, hx⟩ }
theorem St.ofB {fa' : Addr} {K' : Kn} {p : σ × List UInt8} (ok : C.Ok) (S' : St (C.ba D) B mu K₀ fa' ρ' fo K' p h') (bx : B.get? D = none) : St C B mu K₀ fa' [] none K' p.1 h' := by
  obtain ⟨m, hm, _, _⟩ := S'.fr
  have e1 : ownL C fa' none = C.env.locals :: C.stc.map (·.2) := by simp [ownL]
  have e2 : ∃ t, ownL (C.ba D) fa' fo = ownL C fa' none ++ t := by
    rw [e1]
    cases fo with
    | none => exact ⟨[], rfl⟩
    | some _ => exact ⟨[fa'], rfl⟩
  obtain ⟨t, e2⟩ := e2
  have sub : ∀ a ∈ ownL C fa' none, a ∈ ownL (C.ba D) fa' fo := fun a ha => by
    rw [e2]; exact List.mem_append.mpr (.inl ha)
  exact {
    ok := ok
    base := fun b o e hb hf' => S'.base b o e hb fun z => by
      rcases List.mem_cons.mp z with rfl | z
      · rw [bx] at e; cases e
      · exact hf' z
    ex := S'.ex
    kx := S'.kx
    kn := S'.kn
    top := S'.top
    mt := fun a ha => by
      rcases List.mem_append.mp ha with ha | ha
      · exact S'.mt a (List.mem_append.mpr (.inl (sub a ha)))
      · exact S'.mt a (List.mem_append.mpr (.inr (List.mem_cons_of_mem _ ha)))
    ow := fun a ha => S'.ow a (sub a ha)
    nd := by
      have nd := S'.nd
      rw [List.nodup_append] at nd ⊢
      refine ⟨?_, (List.nodup_cons.mp nd.2.1).2, fun a ha b hb => nd.2.2 a (sub a ha) b (List.mem_cons_of_mem _ hb)⟩
      have := nd.1
      rw [e2, List.nodup_append] at this
      exact this.1
    fr := ⟨m, hm, fun y d e => (by cases e), fun _ e => (by cases e)⟩
    fl := fun _ e => by cases e
    ce := S'.ce
    sg := S'.sg.1 }
theorem Ex.baSet {P : Post (σ × List UInt8)} {value : Expr} {spos : Pos} {v : Int} {j : Nat} (ok : C.Ok) (hv : Ev (C.ba D) ρ fo (st, l) value (.int v) (st, l)) (h0 : 0 ≤ v) (h1 : v < 256) (he : Ev (C.ba D) ρ fo (st, l) e (.hd 7) (st, l)) (hi : Ev (C.ba D) ρ fo (st, l) ie (.int (j : Int)) (st, l)) (hj : j < l.length) (hz : l.length ≤ 8)
    (h : P .next ρ fo (st, l.set j (UInt8.ofNat v.toNat))) (hs : swapsWith value (some (.Subscript e ie spos)) pos.line (C.ba D).env = pure false := by rfl) : Ex (C.ba D) ρ fo (st, l) (.Assign [.Subscript e ie spos] value pos) P :=
  fun B mu K₀ fa K s Q E S q => wpAny_Assign_Subscript (hv B mu K₀ fa K s _ E S fun vv h1' tk1 K1 k1 S1 r1 => he B mu K₀ fa K1 { s with heap := h1', toks := tk1 } _ E S1 fun w h2 tk2 K2 k2 S2 r2 => hi B mu K₀ fa K2 { s with heap := h2, toks := tk2 } _ E S2 fun u h3 tk3 K3 k3 S3 r3 => by
    obtain ⟨t, rfl⟩ := r3.int_inv
    obtain ⟨t1, rfl⟩ := r1.int_inv
    rw [r2.hd_inv, show (C.ba D).hv 7 = .ref D from rfl]
    obtain ⟨sg, g⟩ := S3.sg
    have nD : D ∉ C.fp := by
      have nd := S3.nd
      rw [List.nodup_append] at nd
      exact (List.nodup_cons.mp nd.2.1).1
    refine ba_set (s := { s with heap := h3, toks := tk3 }) g (by simpa using hj) (by simpa using hz) h0 h1 fun h4 g4 hs4 => ?_
    have g4' : h4.get? D = some (baObj (l.set j (UInt8.ofNat v.toNat)).toArray) := by rw [g4]; simp
    refine q .next h4 tk3 K3 fa .next ρ fo _ h ((k1.trans k2).trans k3) (S3.effect (a := D) List.mem_cons_self hs4 (by rw [g4]; rfl) (fun v i => ?_) ⟨?_, g4'⟩) trivial
    · obtain ⟨o, ho, hd⟩ := i
      have ho' : h3.get? D = some o := ho
      rw [g] at ho'; cases ho'; cases hd
    · exact ok.sgk _ _ _ (fun a ha o e => (hs4.2 a (fun z => nD (z ▸ ha))).trans e) sg) hs
theorem Ev.baBytes {p : Pos} (hz : l.length ≤ 8) (he : Ev (C.ba D) ρ fo (st, l) e (.hd 7) (st, l)) (hk : C.env.kindOf "bytes" = some .globalImplicit := by rfl) (hs : noStar e = true := by rfl) :
    Ev (C.ba D) ρ fo (st, l) (.Call (.Name "bytes" p) [e] [] pos) (.bytes l) (st, l) :=
  fun B mu K₀ fa K s Q E S h => wpAny_Call_NameR (S.builtName hk (S.ok.bl "bytes" (.type "bytes") rfl).1 (S.ok.bl "bytes" (.type "bytes") rfl).2 (PyProof.Rows.callWith_type (by rw [starEach_cons hs]; rfl) (evalArgs_ns (by rw [starEach_cons hs]; rfl) ((Es.cons he Es.nil hs) pos B mu K₀ fa K s _ E S fun us h1 tk1 K1 k1 S1 r1 => by
    obtain ⟨u, ru, rfl⟩ := r1.one'
    rw [ru.hd_inv, show (C.ba D).hv 7 = .ref D from rfl]
    obtain ⟨sg, g⟩ := S1.sg
    exact call_bytes_ba (s := { s with heap := h1, toks := tk1 }) g (by simpa using hz) fun t tk => h _ h1 tk K1 k1 S1 (.bytes t rfl (by unfold lim; omega))))) (by decide))
end
theorem set_rep (j : Nat) (c : UInt8) (suf : List UInt8) : (List.replicate (j + 1) 0 ++ suf).set j c = List.replicate j 0 ++ (c :: suf) := by
  rw [List.set_append_left _ _ (by simp)]
  rw [show List.replicate (j + 1) (0 : UInt8) = List.replicate j 0 ++ [0] by rw [← List.replicate_succ']]
  rw [List.set_append_right _ _ (by simp)]
  simp
section
variable {σ : Type} {C : Cx σ} {ρ ρ' : Ro} {st : σ}
theorem fn_put_whole_n (W : Wd C) (hl : 1 ≤ C.lv) (n : Int) (k : Nat) (hk : k ≤ 8) (h0 : 0 ≤ n) (h1 : n < 256 ^ k) : FnN C "put_whole" [.int n, .int (k : Int)] st (.bytes (wholeB n k)) st := by
  refine FnN.of_body (i := 8) (ps := [("n", .int n), ("size", .int (k : Int))]) W rfl (by decide) (by omega) rfl (fun pm cd doc vs h => by match vs, h with | [a, b], _ => rfl) fun L a cd => ?_
  have hsh : n.fdiv (2 ^ (8 * (k : Int)).toNat) = 0 := by
    have e : (2 : Int) ^ (8 * (k : Int)).toNat = 256 ^ k := by
      rw [show (8 * (k : Int)).toNat = 8 * k by omega, Int.pow_mul]; rfl
    rw [e, Int.fdiv_eq_ediv_of_nonneg _ (by exact Int.le_of_lt (Int.pow_pos (by decide))), Int.ediv_eq_zero_of_lt h0 h1]
  refine ExsN.cons (Ex.n (Ex.ite_f (Tst.or_f (Tst.cmp (Ev.name rfl) Ev.cint (lt_f (by omega))) (Tst.or_f (Tst.cmp (Ev.bin (Ev.name rfl) (Ev.bin Ev.cint (Ev.name rfl) (.mulI _ _ (Or.inl (by decide)))) (.shrI _ _ (by omega))) Ev.cint (ne_f hsh)) Tst.or_0)) (Exs.nil ?_)))
  intro B mu K₀ fa K s Q E S q
  have ncell : ∀ y c, (C.callee "put_whole" (dS 8) L a cd).env.cells.lookup y = some c → c ∈ ownL (C.callee "put_whole" (dS 8) L a cd) fa none := fun y c e => by
    have : (y, c) ∈ (C.callee "put_whole" (dS 8) L a cd).stc := mem_of_lookup e
    exact List.mem_cons_of_mem _ (List.mem_append.mpr (.inl (List.mem_map.mpr ⟨_, this, rfl⟩)))
  have hre : ∀ y d, (ro0 (dS 8) [("n", .int n), ("size", .int (k : Int))]).get y = some d → noHd d = true := fun y d e => by
    have h := ro0_get e
    by_cases hy : y = "n"
    · subst hy; cases h; rfl
    · rw [List.lookup_cons, show (y == "n") = false by simpa using hy] at h
      by_cases hy2 : y = "size"
      · subst hy2; cases h; rfl
      · rw [List.lookup_cons, show (y == "size") = false by simpa using hy2] at h; cases h
  have bl := S.ok.bl "bytearray" (.type "bytearray") rfl
  have arg : ∀ p, Es (C.callee "put_whole" (dS 8) L a cd) (ro0 (dS 8) [("n", .int n), ("size", .int (k : Int))]) none st [.Name "size" p] [.int (k : Int)] st := fun p => Es.cons (Ev.name rfl) Es.nil
  refine nExecsCons (nAssign (nCallName (nOf (S.builtName rfl bl.1 bl.2 (nCallType (any_star rfl) (nOf (arg _ _ B mu K₀ fa K s _ E S fun vs h1 tk1 K1 k1 S1 r1 => ?_))) (by decide)))) rfl)
  obtain ⟨v, r, rfl⟩ := r1.one'
  obtain ⟨t, rfl⟩ := r.int_inv
  refine call_ba (s := { s with heap := h1, toks := tk1 }) hk fun h2 tk2 keep hD => ?_
  obtain ⟨d1, d2, d3⟩ := S1.fresh_out (size_none h1)
  have hD' : h2.get? h1.objs.size = some (baObj (List.replicate k (0 : UInt8)).toArray) := by rw [hD]; simp
  have S2 := (S1.keeps keep).toB (D := h1.objs.size) hD' d1 d3 ncell hre
  generalize h1.objs.size = D at *
  refine S2.store (s := { s with heap := h2, toks := tk2 }) (x := "found") (Or.inl rfl) (.hd 7 rfl) rfl (Or.inr rfl) fun h3 tk3 S3 => ?_
  refine nOf ?_
  have rest : Exs ((C.callee "put_whole" (dS 8) L a cd).ba D) [("n", some (.int n)), ("size", some (.int (k : Int))), ("found", some (.hd 7)), ("place", none)] none (st, List.replicate k 0) ((dB 8).drop 2) (fun fl _ _ st' => fl = .ret (.bytes (wholeB n k)) ∧ st'.1 = st) := by
    have ok := S.ok
    refine Exs.cons (Ex.forM (f := fun (i : Nat) => Dt.int ((k : Int) - 1 + (i : Int) * -1)) (xs := List.range k)
      (It.range3 (n := k) (Es.cons (Ev.bin (Ev.name rfl) Ev.cint (.subI _ _)) (Es.cons (Ev.neg Ev.cint) (Es.cons (Ev.neg Ev.cint) Es.nil))) (by omega) (by decide) (Or.inr (Or.inr rfl)) (by unfold Builtin.Range.rangeSize; simp; omega) (by omega))
      (fun r ρ fo p => fo = none ∧ ∃ i v suf x, r = (List.range k).drop i ∧ i ≤ k ∧ 0 ≤ v ∧ ρ = ([("n", some (.int v)), ("size", some (.int (k : Int))), ("found", some (.hd 7)), ("place", x)] : Ro) ∧ p = (st, List.replicate (k - i) 0 ++ suf) ∧ suf.length = i ∧ wholeB v (k - i) ++ suf = wholeB n k)
      ⟨rfl, 0, n, [], none, rfl, Nat.zero_le _, h0, rfl, by simp, rfl, by simp⟩ ?_ ?_)
    · rintro i r ρ fo p ⟨rfl, i', v, suf, x, hr, hi', hv0, rfl, rfl, hsl, hw⟩
      have hi : i' < k := by
        have := congrArg List.length hr
        simp at this; omega
      rw [List.drop_eq_getElem_cons (by simpa using hi)] at hr
      simp only [List.getElem_range] at hr
      obtain ⟨rfl, hr'⟩ := List.cons.inj hr
      refine ⟨_, .name (Or.inl rfl) (Or.inr rfl) rfl, ?_⟩
      have ej : (k : Int) - 1 + (i : Int) * -1 = ((k - i - 1 : Nat) : Int) := by omega
      rw [ej]
      have e256 : v.fmod 256 = v % 256 := Int.fmod_eq_emod_of_nonneg v (by decide)
      have d256 : v.fdiv 256 = v / 256 := Int.fdiv_eq_ediv_of_nonneg v (by decide)
      refine Exs.cons (Ex.baSet (v := v.fmod 256) (j := k - i - 1) ok (Ev.bin (Ev.name rfl) Ev.cint (.modI _ _ (by decide))) (by rw [e256]; omega) (by rw [e256]; omega) (Ev.name rfl) (Ev.name rfl) (by simp; omega) (by simp; omega) ?_)
      refine Exs.cons (Ex.assign (Ev.bin (Ev.name rfl) Ev.cint (.divI _ _ (by decide) (by decide))) (Or.inl rfl) (Or.inr rfl) rfl (Exs.nil ⟨rfl, i + 1, v.fdiv 256, (UInt8.ofNat (v.fmod 256).toNat) :: suf, _, hr', hi, by rw [d256]; omega, rfl, ?_, by simp [hsl], ?_⟩))
      · have e1 : k - i = (k - i - 1) + 1 := by omega
        have := set_rep (k - i - 1) (UInt8.ofNat (v.fmod 256).toNat) suf
        rw [← e1] at this
        rw [this, show k - (i + 1) = k - i - 1 by omega]
      · rw [← hw, show k - i = (k - (i + 1)) + 1 by omega, wholeB, d256, e256]
        simp
    · rintro ρ fo p ⟨rfl, i, v, suf, x, hr, hi', hv0, rfl, rfl, hsl, hw⟩
      have hik : i = k := by
        have := congrArg List.length hr
        simp at this; omega
      subst hik
      have hs : List.replicate (i - i) (0 : UInt8) ++ suf = wholeB n i := by
        rw [← hw]; simp [wholeB]
      rw [hs]
      refine Exs.cons (Ex.ret (Ev.baBytes (C := C.callee "put_whole" (dS 8) L a cd) (by rw [wholeB_len]; exact hk) (Ev.name rfl)) ⟨rfl, rfl⟩)
  refine rest B mu K₀ fa K1 { s with heap := h3, toks := tk3 } Q E S3 fun f h4 tk4 K4 fa4 fl ρ4 fo4 st4 p4 k4 S4 r4 => ?_
  obtain ⟨rfl, e4⟩ := p4
  have S5 := St.ofB S.ok S4 d2
  rw [e4] at S5
  refine q f h4 tk4 K4 fa4 _ [] none st ⟨rfl, rfl⟩ (k1.trans k4) S5 ?_
  cases f with
  | ret u => exact Rd.rehv r4 rfl
  | _ => exact r4
end
end Mine
end
section
open PySem PyProof.Rows
set_option linter.unusedVariables false
set_option linter.unusedSimpArgs false
namespace Mine
section
variable {σ : Type} {C : Cx σ} {ρ ρ' : Ro} {fo : Option (List Dt)} {st st1 st2 : σ} {e : Expr} {b b' : Bool} {d d' : Dt} {ds es : List Dt} {P : Post σ}
theorem ExN.plain {s : Stmt} {rest : List Stmt} (h : Ex C ρ fo st s (fun fl ρ' fo' st' => match fl with | .next => ExsN C ρ' fo' st' rest P | fl => P fl ρ' fo' st')) : ExsN C ρ fo st (s :: rest) P := ExsN.cons (Ex.n h)
theorem ExsN.nil (h : P .next ρ fo st) : ExsN C ρ fo st [] P := Exs.n (Exs.nil h)
theorem fn_put_varint_n (W : Wd C) (hl : 2 ≤ C.lv) (n : Int) (h0 : 0 ≤ n) (h1 : n < 1073741824) : FnN C "put_varint" [.int n, .none] st (.bytes (enc n)) st := by
  refine FnN.of_body (i := 11) (ps := [("n", .int n), ("size", .none)]) W rfl (by decide) (by omega) rfl (fun pm cd doc vs h => by match vs, h with | [a, b], _ => rfl) fun L' a cd => ?_
  obtain ⟨v, hv1, hv2⟩ := W.vs
  have hl' : 1 ≤ C.lv - 1 := by omega
  refine ExN.plain (Ex.assign (Ev.callF (Es.cons (Ev.name rfl) Es.nil) (fn_varint_size W.callee hl' n h0 h1)) (Or.inl rfl) (Or.inr rfl) rfl ?_)
  refine ExN.plain (Ex.ite_t (Tst.cmp (Ev.name rfl) Ev.cnone .isN) (Exs.cons (Ex.assign (Ev.name rfl) (Or.inl rfl) (Or.inr rfl) rfl (Exs.nil ?_))))
  have hin : [(1 : Int), 2, 4, 8].any (· == vsz n) = true := by rcases vsz_cases n with ⟨h, _⟩ | ⟨h, _⟩ | ⟨h, _⟩ <;> rw [h] <;> rfl
  have hr : 0 ≤ 8 * vsz n - 2 ∧ 8 * vsz n - 2 ≤ 1000 := by rcases vsz_cases n with ⟨h, _⟩ | ⟨h, _⟩ | ⟨h, _⟩ <;> rw [h] <;> decide
  have he : (encI n).natAbs < 2 ^ 60 := by rcases vsz_cases n with ⟨_, h⟩ | ⟨_, h⟩ | ⟨_, h⟩ <;> rw [h] <;> decide
  have hv0 : 0 ≤ vsz n ∧ vsz n ≤ 8 := by rcases vsz_cases n with ⟨h, _⟩ | ⟨h, _⟩ | ⟨h, _⟩ <;> rw [h] <;> decide
  have hk : vsz n = 1 ∧ encI n = 0 ∨ vsz n = 2 ∧ encI n = 1 ∨ vsz n = 4 ∧ encI n = 2 := vsz_cases n
  have hw := fn_put_whole_n (st := st) (W.callee (n := "put_varint") (sc := dS 11) (L := L') (a := a) (cd := cd)) hl' (encN n) (vsz n).toNat (by omega) (encN_okP n h0 h1).1 (encN_okP n h0 h1).2
  rw [show (((vsz n).toNat : Nat) : Int) = vsz n by omega] at hw
  refine ExN.plain (Ex.ite_f (Tst.or_f (Tst.cmp (Ev.name rfl) (Ev.name rfl) (lt_f (by omega))) (Tst.or_f (Tst.cmp (Ev.name rfl) (Ev.glob hv1 hv2) (CmpR.niT' (ns := [1, 2, 4, 8]) hin)) Tst.or_0)) (Exs.nil ?_))
  exact ExsN.cons (ExN.ret (EvN.callF (EsN.cons (Ev.n (Ev.bin (Ev.bin (Ev.vindex W.callee (Ev.name rfl) hk) (Ev.bin (Ev.bin Ev.cint (Ev.name rfl) (.mulI _ _ (Or.inl (by decide)))) Ev.cint (.subI _ _)) (.shlI _ _ hr.1 hr.2 he)) (Ev.name rfl) (.orI _ _))) (EsN.cons (Ev.n (Ev.name rfl)) EsN.nil)) hw) ⟨rfl, rfl⟩)
theorem fn_put_ranges_n (W : Wd C) (hl : 3 ≤ C.lv) (delay lo hi : Int) (rs : List (Int × Int)) (hlen : rs.length ≤ 1000) (h1 : sm delay) (h2 : sm hi) (h3 : sm (hi - lo)) (hps : ∀ p ∈ gapsL lo rs, sm p.1 ∧ sm p.2) :
    FnN C "put_ranges" [.int delay, .lst (rng ((lo, hi) :: rs))] st (.bytes (putR delay lo hi rs)) st := by
  refine FnN.of_body (i := 17) (ps := [("delay", .int delay), ("ranges", .lst (rng ((lo, hi) :: rs)))]) W rfl (by decide) (by omega) rfl (fun pm cd doc vs h => by match vs, h with | [a, b], _ => rfl) fun L' a cd => ?_
  have hl2 : 2 ≤ C.lv - 1 := by omega
  have hl1 : 1 ≤ C.lv - 1 := by omega
  have pv : ∀ n, sm n → FnN (C.callee "put_ranges" (dS 17) L' a cd) "put_varint" [.int n, .none] st (.bytes (enc n)) st := fun n h => fn_put_varint_n W.callee hl2 n h.1 h.2
  refine ExN.plain (Ex.assignT (Ev.callF (Es.cons (Ev.name rfl) Es.nil) (fn_gaps_of W.callee hl1 lo hi rs hlen)) (.cons (Or.inl rfl) (Or.inr rfl) rfl (.cons (Or.inl rfl) (Or.inr rfl) rfl (.cons (Or.inl rfl) (Or.inr rfl) rfl .nil))) ?_)
  have L4 := enc_len4
  have hp : (rng (gapsL lo rs)).length = rs.length := by simp [rng, gapsL_len]
  have hn : sm ((rng (gapsL lo rs)).length : Int) := by rw [hp]; unfold sm; omega
  have l1 := L4 hi
  have l2 := L4 delay
  have l3 := L4 ((rng (gapsL lo rs)).length : Int)
  have l4 := L4 (hi - lo)
  refine ExsN.cons (ExN.assign (EvN.bin (EvN.bin (EvN.bin (EvN.callF (EsN.cons (Ev.n (Ev.name rfl)) (EsN.cons (Ev.n Ev.cnone) EsN.nil)) (pv _ h2)) (EvN.callF (EsN.cons (Ev.n (Ev.name rfl)) (EsN.cons (Ev.n Ev.cnone) EsN.nil)) (pv _ h1)) (.addB _ _ (by unfold lim; omega)))
    (EvN.callF (EsN.cons (Ev.n (Ev.callB rfl (Es.cons (Ev.name rfl) Es.nil) (.lenL _))) (EsN.cons (Ev.n Ev.cnone) EsN.nil)) (pv _ hn)) (.addB _ _ (by rw [List.length_append]; unfold lim; omega)))
    (EvN.callF (EsN.cons (Ev.n (Ev.name rfl)) (EsN.cons (Ev.n Ev.cnone) EsN.nil)) (pv _ h3)) (.addB _ _ (by rw [List.length_append, List.length_append]; unfold lim; omega))) (Or.inl rfl) (Or.inr rfl) rfl ?_)
  refine ExsN.cons (ExN.forM (f := pr) (xs := gapsL lo rs) (It.n (It.list (Ev.name rfl))) (fun r ρ fo st' => fo = none ∧ st' = st ∧ ∃ v x y, (ρ = ([("delay", some (.int delay)), ("ranges", some (.lst (rng ((lo, hi) :: rs)))), ("largest", some (.int hi)), ("first", some (.int (hi - lo))), ("pairs", some (.lst (rng (gapsL lo rs)))), ("found", some (.bytes v)), ("gap", x), ("size", y)] : Ro)) ∧
    v ++ encP r = putR delay lo hi rs ∧ v.length + 8 * r.length ≤ 16 + 8 * rs.length ∧ ∀ p ∈ r, sm p.1 ∧ sm p.2) ⟨rfl, rfl, _, none, none, rfl, ?_, ?_, hps⟩ ?_ ?_)
  · rw [hp]; rfl
  · rw [gapsL_len, List.length_append, List.length_append, List.length_append]; omega
  · rintro ⟨g, s⟩ r ρ fo st' ⟨rfl, rfl, v, x, y, rfl, hv, hb, hr⟩
    have hg := hr (g, s) List.mem_cons_self
    have lg := L4 ((g, s) : Int × Int).1
    have ls := L4 ((g, s) : Int × Int).2
    rw [List.length_cons] at hb
    refine ⟨_, .tup (.cons (Or.inl rfl) (Or.inr rfl) rfl (.cons (Or.inl rfl) (Or.inr rfl) rfl .nil)), ?_⟩
    refine ExsN.cons (ExN.assign (EvN.bin (EvN.bin (Ev.n (Ev.name rfl)) (EvN.callF (EsN.cons (Ev.n (Ev.name rfl)) (EsN.cons (Ev.n Ev.cnone) EsN.nil)) (pv _ hg.1)) (.addB _ _ (by unfold lim; omega))) (EvN.callF (EsN.cons (Ev.n (Ev.name rfl)) (EsN.cons (Ev.n Ev.cnone) EsN.nil)) (pv _ hg.2)) (.addB _ _ (by rw [List.length_append]; unfold lim; omega)))
      (Or.inl rfl) (Or.inr rfl) rfl (ExsN.nil ⟨rfl, rfl, _, _, _, rfl, ?_, ?_, fun p hp => hr p (List.mem_cons_of_mem _ hp)⟩))
    · rw [← hv]; simp [encP]
    · rw [List.length_append, List.length_append]; omega
  · rintro ρ fo st' ⟨rfl, rfl, v, x, y, rfl, hv, hb, hr⟩
    refine ExN.plain (Ex.ret (Ev.name rfl) ⟨?_, rfl⟩)
    rw [← hv]; simp [encP]
end
section
variable {σ : Type} {C : Cx σ} {ρ ρ' : Ro} {fo : Option (List Dt)} {st st1 st2 : σ} {ns : List Int} {bs lo hi : Int} {rs : List (Int × Int)}
/-- put_ranges of the first 1 + i ranges -/
theorem fn_put_take_n (W : Wd C) (hl : 3 ≤ C.lv) (H : Hdd ns lo hi rs) {delay : Int} (hd : sm delay) (i : Nat) : FnN C "put_ranges" [.int delay, .lst (cut (rng ((lo, hi) :: rs)) none (some (1 + (i : Int))))] st (.bytes (putR delay lo hi (rs.take i))) st := by
  obtain ⟨s1, s2, s3⟩ := H.sm1
  have hlen := H.len
  rw [cutR]
  refine fn_put_ranges_n W hl delay lo hi (rs.take i) (by simp; omega) hd s1 s2 fun p hp => s3 p ?_
  rw [gapsL_take] at hp
  exact List.mem_of_mem_take hp
end
section
variable {σ : Type} {C : Cx σ} {ρ ρ' : Ro} {fo : Option (List Dt)} {st st1 st2 : σ} {ns : List Int} {bs lo hi : Int} {rs : List (Int × Int)}
theorem fn_octets_n (W : Wd C) (hl : 6 ≤ C.lv) (h : LotOk ns bs) (H : Hdd ns lo hi rs)
    (read : ∀ {C' : Cx σ}, Wd C' → 5 ≤ C'.lv → FnOk C' "_law_read" [.bytes (putR 70 lo hi rs)] st (.tup [.int 70, .lst (rng ((lo, hi) :: rs))]) st) : FnN C "_law_octets_right" [.lst (dints ns)] st (.bool true) st := by
  refine FnN.of_body (i := 36) (ps := [("lot", .lst (dints ns))]) W rfl (by decide) (by omega) rfl (fun pm cd doc vs h => by match vs, h with | [a], _ => rfl) fun L' a cd => ?_
  have hW : Wd (C.callee "_law_octets_right" (dS 36) L' a cd) := W.callee
  have hl1 : 1 ≤ C.lv - 1 := by omega
  have hl3 : 3 ≤ C.lv - 1 := by omega
  have hl5 : 5 ≤ C.lv - 1 := by omega
  have hr := fn_rr (st := st) hW hl1 h
  rw [H.eq] at hr
  have hlen := H.len
  obtain ⟨s1, s2, s3⟩ := H.sm1
  refine ExN.plain (Ex.assign (Ev.callF (Es.cons (Ev.name rfl) Es.nil) hr) (Or.inl rfl) (Or.inr rfl) rfl ?_)
  refine ExN.plain (Ex.assignT (Ev.callF (Es.cons (Ev.name rfl) Es.nil) (fn_gaps_of hW hl1 lo hi rs (by omega))) (.cons (Or.inl rfl) (Or.inr rfl) rfl (.cons (Or.inl rfl) (Or.inr rfl) rfl (.cons (Or.inl rfl) (Or.inr rfl) rfl .nil))) ?_)
  refine ExN.plain (Ex.ite_f (Tst.or_f (Tst.cmp (Ev.name rfl) (Ev.callB rfl (Es.cons (Ev.name rfl) Es.nil) (.maxL _ ns hi (unints_dints _) H.mem H.max)) (ne_f rfl))
    (Tst.or_f (Tst.cmp (Ev.name rfl) (Ev.bin (Ev.item (Ev.item (Ev.name rfl) Ev.cint itemL0) Ev.cint item1) (Ev.item (Ev.item (Ev.name rfl) Ev.cint itemL0) Ev.cint item0) (.subI _ _)) (ne_f rfl))
      (Tst.or_f (Tst.cmp (Ev.callB rfl (Es.cons (Ev.name rfl) Es.nil) (.lenL _)) (Ev.bin (Ev.callB rfl (Es.cons (Ev.name rfl) Es.nil) (.lenL _)) Ev.cint (.subI _ _)) (ne_f (by simp [rng, gapsL_len]))) Tst.or_0))) (Exs.nil ?_))
  have hok : okD (.tup [.int 70, .lst (rng ((lo, hi) :: rs))]) := by
    have := okD_rng ((lo, hi) :: rs)
    unfold okD at this ⊢
    have k7 : PySem.W.kqdOk 7 (toDat (.lst (rng ((lo, hi) :: rs)))) = true := kqd_lst fun d hd => kqd_rng hd
    rw [toDat, toDats, toDats, toDats, PySem.W.kqdOk, List.all_cons, List.all_cons, List.all_nil, k7]
    rfl
  refine ExsN.cons (ExN.ret (EvN.cmp (EvN.callF (EsN.cons (EvN.callF (EsN.cons (Ev.n Ev.cint) (EsN.cons (Ev.n (Ev.name rfl)) EsN.nil)) (fn_put_ranges_n hW hl3 70 lo hi rs (by omega) ⟨by decide, by decide⟩ s1 s2 s3)) EsN.nil) (FnOk.n (read hW hl5))) (Ev.n (Ev.tuple (Es.cons Ev.cint (Es.cons (Ev.name rfl) Es.nil)))) (.eqD _ hok)) ⟨rfl, rfl⟩)
end
end Mine
end
section
open PySem PyProof.Rows
set_option linter.unusedVariables false
set_option linter.unusedSimpArgs false
namespace Mine
section
variable {C : Cx Nat} {ρ ρ' : Ro} {fo : Option (List Dt)} {n n1 n2 : Nat} {P : Post Nat} {bx ba : Addr} {xs : List Int} {ns : List Int} {bs lo hi : Int} {rs : List (Int × Int)}
theorem fn_rooms_n (W : Wd C) (X : BoxC C bx ba xs) (hl : 5 ≤ C.lv) (h : LotOk ns bs) (H : Hdd ns lo hi rs) : FnN C "_law_rooms_right" [.hd 0, .lst (dints ns)] n (.bool true) (n + 2) := by
  refine FnN.of_body (i := 38) (ps := [("box", .hd 0), ("lot", .lst (dints ns))]) W rfl (by decide) (by omega) rfl (fun pm cd doc vs h => by match vs, h with | [a, b], _ => rfl) fun L' a cd => ?_
  have hW : Wd (C.callee "_law_rooms_right" (dS 38) L' a cd) := W.callee
  have hl1 : 1 ≤ C.lv - 1 := by omega
  have hl2 : 2 ≤ C.lv - 1 := by omega
  have hl3 : 3 ≤ C.lv - 1 := by omega
  have hr := fn_rr (st := n) hW hl1 h
  rw [H.eq] at hr
  have hlen := H.len
  obtain ⟨s1, s2, s3⟩ := H.sm1
  obtain ⟨r, h0, h1, ht⟩ := fn_take (n := n) hW X.callee hl1 4 (by decide)
  obtain ⟨k, rfl⟩ := Int.eq_ofNat_of_zero_le h0
  obtain ⟨dl, hdl, hdk⟩ := delays k (by omega)
  refine ExN.plain (Ex.assignT (Ev.tuple (Es.cons (Ev.callF (Es.cons (Ev.name rfl) Es.nil) hr) (Es.cons (Ev.item (Ev.list (Es.cons Ev.cint (Es.cons Ev.cint (Es.cons Ev.cint (Es.cons Ev.cint Es.nil))))) (Ev.callF (Es.cons (Ev.name rfl) (Es.cons Ev.cint Es.nil)) ht)
    (.lst _ _ k _ (by omega) (by omega) (seqIndex_of (by omega) (by simp; omega)) hdk)) Es.nil))) (.cons (stor_cell rfl) (Or.inr rfl) rfl (.cons (stor_cell rfl) (Or.inr rfl) rfl .nil)) ?_)
  obtain ⟨q, q0, q1, hq⟩ := fn_take (n := n + 1) hW X.callee hl1 ((rng ((lo, hi) :: rs)).length : Int) (by simp [rng])
  obtain ⟨j, rfl⟩ := Int.eq_ofNat_of_zero_le q0
  have hj : j ≤ rs.length := by have : (rng ((lo, hi) :: rs)).length = rs.length + 1 := by simp [rng]
                                omega
  refine ExN.plain (Ex.assign (Ev.bin Ev.cint (Ev.callF (Es.cons (Ev.name rfl) (Es.cons (Ev.callB rfl (Es.cons (Ev.name rfl) Es.nil) (.lenL _)) Es.nil)) hq) (.addI _ _)) (Or.inl rfl) (Or.inr rfl) rfl ?_)
  have hput : ∀ i : Nat, FnN (C.callee "_law_rooms_right" (dS 38) L' a cd) "put_ranges" [.int dl, .lst (cut (rng ((lo, hi) :: rs)) none (some (1 + (i : Int))))] (n + 1 + 1) (.bytes (putR dl lo hi (rs.take i))) (n + 1 + 1) := fun i => fn_put_take_n hW hl3 H hdl i
  have hcost : ((putR dl lo hi (rs.take j)).length : Int) ≤ 1000 ∧ 0 ≤ ((putR dl lo hi (rs.take j)).length : Int) := by
    refine ⟨?_, by omega⟩
    rw [putR_len _ _ _ _ _ hj]
    unfold cost
    have p1 := vsz_pos hi
    have p2 := vsz_pos dl
    have p3 := vsz_pos (hi - lo)
    have p4 := vsz_pos (j : Int)
    have p5 : ∀ l : List (Int × Int), sumsz l ≤ 8 * l.length := by
      intro l
      induction l with
      | nil => simp [sumsz]
      | cons p r ih => rw [sumsz_cons]; have := vsz_pos p.1; have := vsz_pos p.2; simp; omega
    have p6 := p5 ((gapsL lo rs).take j)
    have p7 : ((gapsL lo rs).take j).length ≤ 9 := by simp [gapsL_len]; omega
    omega
  generalize hc : ((putR dl lo hi (rs.take j)).length : Int) = c at hcost
  refine ExsN.cons (ExN.forM (f := fun (i : Nat) => Dt.int (c - 1 + (i : Int) * 1)) (xs := List.range (c + 2 - (c - 1)).toNat)
    (ItN.range2 (EsN.cons (EvN.bin (EvN.as (EvN.callB rfl (EsN.cons (EvN.callF (EsN.cons (Ev.n (Ev.name rfl)) (EsN.cons (Ev.n (Ev.sliceL (Ev.name rfl) Eo.none (Eo.some (Ev.name rfl)))) EsN.nil)) (hput j)) EsN.nil) (.lenB _)) (congrArg Dt.int hc)) (Ev.n Ev.cint) (.subI _ _))
      (EsN.cons (EvN.bin (EvN.as (EvN.callB rfl (EsN.cons (EvN.callF (EsN.cons (Ev.n (Ev.name rfl)) (EsN.cons (Ev.n (Ev.sliceL (Ev.name rfl) Eo.none (Eo.some (Ev.name rfl)))) EsN.nil)) (hput j)) EsN.nil) (.lenB _)) (congrArg Dt.int hc)) (Ev.n Ev.cint) (.addI _ _)) EsN.nil)) (by omega) (by omega))
    (fun r ρ fo st' => fo = none ∧ st' = n + 2 ∧ (∃ x y, ρ = roomRo ns lo hi dl rs (some (.int (1 + (j : Int)))) x y)) ⟨rfl, rfl, none, none, rfl⟩ ?_ ?_)
  · rintro i r ρ fo st' ⟨rfl, rfl, x, y, rfl⟩
    generalize hroom : c - 1 + (i : Int) * 1 = room
    refine ⟨_, .name (stor_cell rfl) (Or.inr rfl) rfl, ?_⟩
    have hfine : dints (fineL dl lo hi room rs) = ((List.range (rs.length + 1)).filterMap fun (i : Nat) => if decide (cost dl lo hi rs i ≤ room) = true then some (Dt.int (1 + (i : Int))) else none) := by
      rw [filt_some, fineL, dints, List.map_map]; rfl
    have hfit := fn_fitting (st := n + 2) hW hl2 dl room lo hi rs (by omega) hdl s1 s2 s3
    refine ExsN.cons (ExN.assignComp (st2 := n + 2) (es := dints (fineL dl lo hi room rs)) (It.as (es := (List.range (rs.length + 1)).map fun (i : Nat) => Dt.int (1 + (i : Int))) (It.range2 (Es.cons Ev.cint (Es.cons (Ev.bin (Ev.callB rfl (Es.cons (Ev.name rfl) Es.nil) (.lenL _)) Ev.cint (.addI _ _)) Es.nil)) (by decide) (by simp [rng]; omega)) ?hit) ?hcm (fun x c h => PySem.mem_of_lookup h) (Or.inl rfl) (Or.inr rfl) rfl ?rest)
    case hit =>
      rw [← range_succ_map]
      congr 1
      simp [rng]
    case hcm =>
      rw [hfine]
      refine Cmp.filt fun i hi' L'' => ⟨_, .name (Or.inl rfl) (Or.inr rfl) rfl, ?_⟩
      have hi'' := List.mem_range.mp hi'
      have hlenC := putR_len dl lo hi rs i (by omega)
      by_cases hle : cost dl lo hi rs i ≤ room
      · rw [if_pos (decide_eq_true hle)]
        exact ⟨_, TifN.one (TstN.cmp (EvN.callB rfl (EsN.cons (EvN.callF (EsN.cons (Ev.n (Ev.name rfl)) (EsN.cons (Ev.n (Ev.sliceL (Ev.name rfl) Eo.none (Eo.some (Ev.name rfl)))) EsN.nil)) (fn_put_take_n (st := n + 2) hW.comp hl3 H hdl i)) EsN.nil) (.lenB _)) (Ev.n (Ev.name rfl)) (le_t (by omega))), Ev.name rfl⟩
      · rw [if_neg (by simpa using hle)]
        exact TifN.one (TstN.cmp (EvN.callB rfl (EsN.cons (EvN.callF (EsN.cons (Ev.n (Ev.name rfl)) (EsN.cons (Ev.n (Ev.sliceL (Ev.name rfl) Eo.none (Eo.some (Ev.name rfl)))) EsN.nil)) (fn_put_take_n (st := n + 2) hW.comp hl3 H hdl i)) EsN.nil) (.lenB _)) (Ev.n (Ev.name rfl)) (le_f (by omega)))
    case rest =>
      refine ExN.plain (Ex.ite_f (st1 := n + 2) ?t1 (Exs.nil (ExsN.nil ⟨rfl, rfl, _, _, rfl⟩)))
      case t1 =>
        rcases fine_ok dl lo hi room rs with ⟨f1, f2⟩ | ⟨t, f0, f1, f2, f3⟩
        · rw [f2] at hfit
          rw [f1]
          exact Tst.cmp (Ev.callF (Es.cons (Ev.name rfl) (Es.cons (Ev.name rfl) (Es.cons (Ev.name rfl) Es.nil))) hfit) (Ev.ite_f (Tst.cmp (Ev.name rfl) (Ev.list Es.nil) (.neL _ (okD_dints _))) (Ev.list Es.nil)) (.neD _ (okD_rng []))
        · rw [f3] at hfit
          have hne : (!(dints (fineL dl lo hi room rs)).isEmpty) = true := by
            cases hf : fineL dl lo hi room rs with
            | nil => rw [hf] at f1; cases f1
            | cons _ _ => rfl
          have hcut : (Dt.lst (cut (rng ((lo, hi) :: rs)) none (some (1 + (t : Int))))) = .lst (rng ((lo, hi) :: rs.take t)) := by rw [cutR]
          exact Tst.cmp (Ev.callF (Es.cons (Ev.name rfl) (Es.cons (Ev.name rfl) (Es.cons (Ev.name rfl) Es.nil))) hfit) (Ev.ite_t (Tst.as (Tst.cmp (Ev.name rfl) (Ev.list Es.nil) (.neL _ (okD_dints _))) hne) (Ev.as (Ev.sliceL (Ev.name rfl) Eo.none (Eo.some (Ev.callB rfl (Es.cons (Ev.name rfl) Es.nil) (.maxL _ _ _ (unints_dints _) f1 f2)))) hcut)) (.neD _ (okD_rng _))
  · rintro ρ fo st' ⟨rfl, rfl, x, y, rfl⟩
    have hfit := fn_fitting (st := n + 2) hW hl2 dl 0 lo hi rs (by omega) hdl s1 s2 s3
    have hz : fitR dl 0 lo hi rs = [] := by
      unfold fitR
      have p1 := vsz_pos hi
      have p2 := vsz_pos dl
      have p3 := vsz_pos (hi - lo)
      rw [if_pos (by omega)]
    rw [hz] at hfit
    exact ExN.plain (Ex.ret (Ev.cmp (Ev.callF (Es.cons (Ev.name rfl) (Es.cons (Ev.name rfl) (Es.cons Ev.cint Es.nil))) hfit) (Ev.list Es.nil) (.eqL _ (okD_rng []))) ⟨rfl, rfl⟩)
end
section
variable {C : Cx Nat} {n : Nat} {bx ba : Addr} {xs : List Int}
theorem law_rest_n {L a : Addr} {cd : Value} {d0 : Dt} (W : Wd C) (X : BoxC C bx ba xs) (hl : 8 ≤ C.lv) (ends : ∀ n, FnOk (C.callee "law" (dS 39) L a cd) "_law_ends_right" [.hd 0] n (.bool true) (n + 3))
    (read : ∀ {lo hi : Int} {rs : List (Int × Int)} {ns : List Int} {st : Nat}, Hdd ns lo hi rs → ∀ {C' : Cx Nat}, Wd C' → 5 ≤ C'.lv → FnOk C' "_law_read" [.bytes (putR 70 lo hi rs)] st (.tup [.int 70, .lst (rng ((lo, hi) :: rs))]) st) :
    ExsN (C.callee "law" (dS 39) L a cd) [("script", some d0), ("box", some (.hd 0)), ("base", none), ("mask", none), ("lot", none)] none 0 ((dB 39).drop 1) (fun fl _ _ _ => fl = .ret (.bool true)) := by
  have hW : Wd (C.callee "law" (dS 39) L a cd) := W.callee
  have hX : BoxC (C.callee "law" (dS 39) L a cd) bx ba xs := X.callee
  have hl1 : 1 ≤ C.lv - 1 := by omega
  have hl2 : 2 ≤ C.lv - 1 := by omega
  have hl5 : 5 ≤ C.lv - 1 := by omega
  have hl6 : 6 ≤ C.lv - 1 := by omega
  obtain ⟨r, h0, h1, ht⟩ := fn_take (n := 0) hW hX hl1 3 (by decide)
  obtain ⟨k, rfl⟩ := Int.eq_ofNat_of_zero_le h0
  obtain ⟨b, b0, b1, hbk⟩ := bases k (by omega)
  obtain ⟨mask, m0, m1, hm⟩ := fn_take (n := 0 + 1) hW hX hl1 1024 (by decide)
  refine ExN.plain (Ex.assignT (Ev.tuple (Es.cons (Ev.item (Ev.list (Es.cons Ev.cint (Es.cons Ev.cint (Es.cons Ev.cint Es.nil)))) (Ev.callF (Es.cons (Ev.name rfl) (Es.cons Ev.cint Es.nil)) ht) (.lst _ _ k _ (by omega) (by omega) (seqIndex_of (by omega) (by simp; omega)) hbk))
    (Es.cons (Ev.callF (Es.cons (Ev.name rfl) (Es.cons Ev.cint Es.nil)) hm) Es.nil))) (.cons (stor_cell rfl) (Or.inr rfl) rfl (.cons (stor_cell rfl) (Or.inr rfl) rfl .nil)) ?_)
  have hok := lotL_ok b mask b0 b1
  have hlot : dints (lotL b mask) = (List.range 10).filterMap fun (i : Nat) => if decide ((mask.fdiv (2 ^ i)).fmod 2 = 1) = true then some (Dt.int (b + (i : Int))) else none := by
    rw [filt_some, lotL, dints, List.map_map]; rfl
  refine ExN.plain (Ex.assignComp (st2 := 0 + 1 + 1) (es := dints (lotL b mask)) (It.as (es := (List.range 10).map fun (i : Nat) => Dt.int (i : Int)) (It.range1 (Es.cons Ev.cint Es.nil) (by decide) (by decide)) (by simp [ranD])) ?hcm (fun x c h => PySem.mem_of_lookup h) (Or.inl rfl) (Or.inr rfl) rfl ?rest)
  case hcm =>
    rw [hlot]
    refine Cmp.filt fun i hi L'' => ⟨_, .name (Or.inl rfl) (Or.inr rfl) rfl, ?_⟩
    have hi' := List.mem_range.mp hi
    have hp : (2 : Int) ^ ((i : Int)).toNat = 2 ^ i := by simp
    have hpos : (0 : Int) < 2 ^ i := Int.pow_pos (by decide)
    have hlt : (2 : Int) ^ i < 2 ^ 60 := by
      have : (2 : Int) ^ i ≤ 2 ^ 10 := by
        have h2 : (2 : Nat) ^ i ≤ 2 ^ 10 := Nat.pow_le_pow_right (by decide) (by omega)
        exact_mod_cast h2
      exact Int.lt_of_le_of_lt this (by decide)
    by_cases hc : (mask.fdiv (2 ^ i)).fmod 2 = 1
    · rw [if_pos (decide_eq_true hc)]
      exact ⟨_, Tif.one (Tst.cmp (Ev.bin (Ev.bin (Ev.name rfl) (Ev.as (Ev.bin Ev.cint (Ev.name rfl) (.powI _ _ (by omega) (by omega) (by decide))) (congrArg Dt.int hp)) (.divI _ _ hpos hlt)) Ev.cint (.modI _ _ (by decide))) Ev.cint (eq_t hc)), Ev.bin (Ev.name rfl) (Ev.name rfl) (.addI _ _)⟩
    · rw [if_neg (by simpa using hc)]
      exact Tif.one (Tst.cmp (Ev.bin (Ev.bin (Ev.name rfl) (Ev.as (Ev.bin Ev.cint (Ev.name rfl) (.powI _ _ (by omega) (by omega) (by decide))) (congrArg Dt.int hp)) (.divI _ _ hpos hlt)) Ev.cint (.modI _ _ (by decide))) Ev.cint (eq_f hc))
  case rest =>
    refine ExN.plain (Ex.ite_f (Tst.or_f (Tst.not_f (Tst.plain (Ev.callF (Es.cons (Ev.name rfl) Es.nil) (ends _)))) (Tst.or_f (Tst.not_f (Tst.plain (Ev.callF (Es.cons (Ev.name rfl) (Es.cons (Ev.name rfl) Es.nil)) (fn_bent hW hX hl2 b b0))))
      (Tst.or_f (Tst.not_f (Tst.plain (Ev.callF (Es.cons (Ev.name rfl) (Es.cons (Ev.name rfl) Es.nil)) (fn_law_lot_right hW hl5 hok)))) Tst.or_0))) (Exs.nil ?_))
    by_cases hne : lotL b mask = []
    · rw [hne]
      exact ExN.plain (Ex.ite_t (Tst.cmp (Ev.name rfl) (Ev.list Es.nil) (.eqL _ (okD_dints []))) (Exs.cons (Ex.ret Ev.cbool rfl)))
    · obtain ⟨lo, hi, rs, H⟩ := hok.head hne
      have hf : (dints (lotL b mask)).isEmpty = false := by
        cases hq : lotL b mask with
        | nil => exact absurd hq hne
        | cons _ _ => rfl
      refine ExN.plain (Ex.ite_f (Tst.as (Tst.cmp (Ev.name rfl) (Ev.list Es.nil) (.eqL _ (okD_dints _))) hf) (Exs.nil ?_))
      exact ExsN.cons (ExN.ret (EvN.and_t (EvN.callF (EsN.cons (Ev.n (Ev.name rfl)) EsN.nil) (fn_octets_n hW hl6 hok H (read H))) (EvN.bool1 (EvN.callF (EsN.cons (Ev.n (Ev.name rfl)) (EsN.cons (Ev.n (Ev.name rfl)) EsN.nil)) (fn_rooms_n hW hX hl5 hok H)))) rfl)
end
end Mine
end
section
open PySem PyProof.Rows
set_option linter.unusedVariables false
set_option linter.unusedSimpArgs false
namespace Mine
theorem law_whole_n {prog : Program} {w : World} {s : Shared} {h : Heap} {mg mb : Str → Option Value} {h₁ : Heap} {a : Addr} {cd : Value} {ls : Addr} {vs : List Value} {ns : List Int} {Q : Flow → Shared → Prop} {E : Value → Shared → Prop} (W : Wf h mg mb) (hlen : ns.length ≤ 63)
    (hl : h.IsList ls vs.toArray) (hi : IntsAre vs ns) (F : Fr h h.objs.size h₁ (bindL (envOfC "law" (dS 39) h.objs.size a cd).kindOf [("script", .ref ls)] fun _ => none))
    (X : PyProof.Rows.Cl h.objs.size (cellsFrom (h.objs.size + 1) (dS 39).names []) h₁ (bindC (envOfC "law" (dS 39) h.objs.size a cd).kindOf [("script", .ref ls)] fun _ => none))
    (hs : s.heap = h₁) (ends : EndsOk prog w h mg mb) (read : ReadOk)
    (q : ∀ h' tk m, Fr h h.objs.size h' m → Q (.ret (.bool true)) { s with heap := h', toks := tk }) :
    wpN (model prog w) (callerA.deeper (envOfC "law" (dS 39) h.objs.size a cd)) (execs (dB 39) (envOfC "law" (dS 39) h.objs.size a cd)) Q E s := by
  have hWd := lawC_wd (prog := prog) (w := w) W
  obtain ⟨o, ho, hc, n, hd⟩ := hl
  have hvl : vs.length = ns.length := by
    have := (intsAre_rds (hv := fun _ => Value.none) (K := h.get?) hi).length
    simpa [dints] using this
  have P : Pre (lawC prog w h mg mb) h.get? 0 h := ⟨rfl, ⟨by show callerA.depth + 9 < recursionLimit; decide, by show callerA.units + 100 * 9 + 100 < cLine; decide +kernel⟩, W.bl, W.g, W.b, fun _ _ _ _ _ => trivial, fun _ _ e => e, fun _ _ e => e, fun _ ha => (nomatch ha), List.Pairwise.nil, trivial⟩
  have S := P.start (sc := dS 39) (n := "law") (a := a) (cd := cd) (ps := [("script", .lst (dints ns))]) (vs := [.ref ls]) (Nat.le_of_ble_eq_true rfl) rfl (.cons (.lst ho hc hd (by simp [dints]; unfold lim; omega) (intsAre_rds hi)) .nil) F X
  have S' : St ((lawC prog w h mg mb).callee "law" (dS 39) h.objs.size a cd) h [] h.get? 0 (ro0 (dS 39) [("script", .lst (dints ns))]) none h.get? 0 s.heap := by rw [hs]; exact S
  show wpN _ _ (execs ((dB 39).headD (.Pass ⟨0, 0, 0, 0⟩) :: (dB 39).drop 1) _) Q E s
  refine nExecsCons (nOf (law_first (C := lawC prog w h mg mb) rfl S' fun bx ba h2 tk2 K2 XB S2 => ?_))
  refine law_rest_n (C := (lawC prog w h mg mb).boxed bx ba (ns.take 24)) hWd.boxed XB (Nat.le_of_ble_eq_true rfl) (fun n => ends bx ba _ a cd n XB) read h [] h.get? 0 K2 { s with heap := h2, toks := tk2 } Q E S2 fun f h3 tk3 K3 fa3 fl ρ3 fo3 st3 p3 k3 S3 r3 => ?_
  subst p3
  cases f with
  | ret v =>
    rw [show v = .bool true from Rd.bool_inv r3]
    have kn3 : ∀ b o, h.get? b = some o → h3.get? b = some o := fun b o e => S3.kn b o (S3.top b o e)
    obtain ⟨m3, hm3, _⟩ := S3.fr
    exact q h3 tk3 m3 ⟨hm3, kn3, Nat.le_refl _⟩
  | _ => cases r3
theorem law_code_n {prog : Program} {w : World} {s : Shared} {mg mb : Str → Option Value} {fa ls : Addr} {o : Obj} {pm cd doc : Value} {vs : List Value} {ns : List Int} {R : Result → Shared → Prop} (W : Wf s.heap mg mb) (ho : s.heap.get? fa = some o)
    (hd : o.data = .func (Calls.docDef "law" (dP 39) (dB 39) (dS 39) pm cd doc)) (hcd : s.heap.CodeRec cd "law") (hlen : ns.length ≤ 63) (hl : s.heap.IsList ls vs.toArray) (hi : IntsAre vs ns) (ends : EndsOk prog w s.heap mg mb) (read : ReadOk)
    (q : ∀ h' tk m, Fr s.heap s.heap.objs.size h' m → R (.ok (.ret (.bool true))) { s with heap := h', toks := tk }) : codeN (model prog w) callerA (.call (.ref fa) ⟨[.ref ls], []⟩) R s := by
  refine cCallCells (binds := [("script", .ref ls)]) (by show callerA.depth < recursionLimit; decide) ho hd W.nl hcd rfl rfl rfl (fun x hx => by rw [List.mem_singleton.mp hx]; exact Or.inl rfl) (fun s₁ XC => ?_) rfl rfl rfl
  obtain ⟨h₁, tk, rfl, _⟩ := XC.done
  exact law_whole_n (s := { s with heap := h₁, toks := tk }) W hlen hl hi ⟨XC.toInCall.ns, XC.toInCall.keep, XC.toInCall.fresh⟩ ⟨XC.cell, XC.apart, XC.above⟩ rfl ends read fun h' tk' m k => q h' tk' m k
end Mine
end
section
open PySem PySem.W PyProof.Rows
set_option linter.unusedVariables false
set_option linter.unusedSimpArgs false
namespace Mine
set_option maxRecDepth 100000 in
theorem recs_eq : recsOf vw = [0, 8, 9, 10, 11, 12, 15, 16, 17, 18, 22, 23, 24, 25, 26, 27, 28, 29, 31, 32, 33, 34, 35, 36, 37, 38, 39].map recI := by kernel_rfl
set_option maxRecDepth 100000 in
theorem def_cases : ∀ i, i < 40 → dN i = "" ∨ i ∈ [0, 8, 9, 10, 11, 12, 15, 16, 17, 18, 22, 23, 24, 25, 26, 27, 28, 29, 31, 32, 33, 34, 35, 36, 37, 38, 39] := by decide +kernel
theorem dN_big {i : Nat} (h : 40 ≤ i) : dN i = "" := by
  have hl : PySem.Challenge.pw_pq0973_01.main.body.length = 40 := by kernel_rfl
  unfold dN stm
  rw [List.getElem?_eq_none (by omega)]
  rfl
theorem def_mem {i : Nat} (h : dN i ≠ "") : recI i ∈ recsOf vw := by
  rw [recs_eq]
  by_cases hi : i < 40
  · rcases def_cases i hi with q | q
    · exact absurd q h
    · exact List.mem_map.mpr ⟨i, q, rfl⟩
  · exact absurd (dN_big (by omega)) h
section
variable {P : Params} {h : Heap} {mg mb : Str → Option Value} {loose : List Str} {mean : ExcName → Option Value}
noncomputable abbrev hp (P : Params) : Frag := kp P
theorem zip_map_lookup {β : Type} {f : Str → β} {x : Str} {v : β} : ∀ {xs : List Str}, (xs.zip (xs.map f)).lookup x = some v → f x = v
  | y :: r, h => by
    rw [List.map_cons, List.zip_cons_cons, List.lookup_cons] at h
    cases hb : x == y with
    | true => rw [hb] at h; rw [show x = y by simpa using hb]; exact Option.some.inj h
    | false => rw [hb] at h; exact zip_map_lookup h
theorem name_at {mg : Str → Option Value} {h : Heap} (Y : ∃ m, h.Ns mainGlobals m ∧ kN.map m = kV) (G : h.Ns mainGlobals mg) {x : Str} {v : Option Value} (e : (kN.zip kV).lookup x = some v) : mg x = v := by
  obtain ⟨m, hm, hv⟩ := Y
  rw [ns_uniq hm G] at hv
  rw [← hv] at e
  exact zip_map_lookup e
theorem bl_all : builtF.all (fun p => (kN.zip kV).lookup p.1 == some none && bootBuiltins p.1 == some p.2 && p.1 != "__name__") = true := by kernel_rfl
theorem wf_of (T : Top vw loose mean mg mb h) (KX : (hp P).In h) (Y : ∃ m, h.Ns mainGlobals m ∧ kN.map m = kV) : Wf h mg mb where
  g := T.g
  b := T.b
  bl := fun x v hx => by
    have := List.all_eq_true.mp bl_all _ (mem_of_lookup hx)
    simp only [Bool.and_eq_true, beq_iff_eq, bne_iff_ne] at this
    exact ⟨name_at Y T.g this.1.1, (T.builtins x this.2).trans this.1.2⟩
  nl := T.nolimit
  fn := fun i n hn hne => by
    subst hn
    obtain ⟨a, o, pm, cd, doc, h1, h2, h3, h4⟩ := T.fn _ (def_mem hne)
    exact ⟨a, o, pm, cd, doc, h1, h2, h3, h4⟩
  c1 := by
    obtain ⟨v, h1, h2⟩ := T.const "INTERNAL_ERROR" (.int 1) (by kernel_rfl)
    obtain ⟨t, e, _⟩ := reads_int_inv (h2 {})
    exact ⟨t, by rw [h1, e]⟩
  c2 := by
    obtain ⟨v, h1, h2⟩ := T.const "FRAME_ENCODING_ERROR" (.int 7) (by kernel_rfl)
    obtain ⟨t, e, _⟩ := reads_int_inv (h2 {})
    exact ⟨t, by rw [h1, e]⟩
  c3 := by
    obtain ⟨v, h1, h2⟩ := T.const "ACK_TYPE" (.int 2) (by kernel_rfl)
    obtain ⟨t, e, _⟩ := reads_int_inv (h2 {})
    exact ⟨t, by rw [h1, e]⟩
  c4 := ⟨62, _, [.int 1 264, .int 2 265, .int 4 266, .int 8 267], 0, name_at Y T.g (by kernel_rfl), KX 62 { cls := .type "tuple", data := .seq #[.int 1 264, .int 2 265, .int 4 266, .int 8 267] 0 } (by kernel_rfl), rfl, rfl, rfl, .cons _ _ (.cons _ _ (.cons _ _ (.cons _ _ .nil)))⟩
  rf := by
    have meth : ∀ {f : Addr} {nm qual : Str} {i j : Nat} {md cd : Value}, (hp P).lookup f = some { cls := .type "function", data := .func (mfd nm qual i j md cd) } → codeIn (hp P) cd qual = true → MethAt h f nm qual i j := fun e c => ⟨_, _, KX _ _ e, codeRec_of KX c⟩
    refine ⟨hp P, 177, 139, 146, 174, KX, name_at Y T.g (by kernel_rfl), by kernel_rfl, by kernel_rfl, by kernel_rfl, by kernel_rfl, by kernel_rfl, by kernel_rfl, by kernel_rfl, by kernel_rfl, by kernel_rfl, by kernel_rfl, by kernel_rfl, by kernel_rfl, by kernel_rfl, by kernel_rfl, by kernel_rfl, by kernel_rfl, by kernel_rfl, ?_, ?_, ?_⟩
    · exact meth (md := .str "quic.octets" 376) (cd := .ref 138) (by kernel_rfl) (by kernel_rfl)
    · exact meth (md := .str "quic.octets" 376) (cd := .ref 145) (by kernel_rfl) (by kernel_rfl)
    · exact meth (md := .str "quic.octets" 376) (cd := .ref 173) (by kernel_rfl) (by kernel_rfl)
end
end Mine
end
section
open PySem PySem.W PyProof.Rows
set_option linter.unusedVariables false
set_option linter.unusedSimpArgs false
namespace Mine
theorem ns_some_of {K : Frag} {h : Heap} {N : Addr} {m : Str → Option Value} {n : Str} {v : Value} (X : K.In h) (G : h.Ns N m) (e : nsIn K N n = some (some v)) : m n = some v := by
  obtain ⟨o, es, ep, ho, hd, _, hf⟩ := G
  unfold nsIn at e
  split at e
  · rename_i c d es' n' sl q
    have := X _ _ q
    rw [ho] at this
    cases this
    cases hd
    split at e
    · rename_i en he
      cases e
      rw [← hf]
      unfold nsFind findBy
      rw [← Array.find?_toList, he]
      rfl
    · split at e <;> cases e
  · cases e
section
variable {P : Params} {h : Heap} {mg mb : Str → Option Value} {loose : List Str} {mean : ExcName → Option Value}
theorem qe_of (T : Top vw loose mean mg mb h) (KX : (hp P).In h) (Y : ∃ m, h.Ns mainGlobals m ∧ kN.map m = kV) : ∃ QC N FI mN k0 k1 k2 k3 k5, QeF h mg mb QC N FI mN k0 k1 k2 k3 k5 := by
  have G : h.Ns 37 (h.nsMap 37) := .of_isNs (isNs_of_in KX (by kernel_rfl))
  refine ⟨38, 37, 35, h.nsMap 37, some (.ref 22), none, some (.str "QuicError" 200), some (.str "QuicError" 208), some (.bool true), ?_⟩
  exact {
    nm := name_at Y T.g (by kernel_rfl)
    ob := KX 38 _ (by kernel_rfl)
    ns := G
    mi := ns_some_of KX G (by kernel_rfl)
    m0 := ns_none_of KX G (by kernel_rfl)
    m1 := ns_none_of KX G (by kernel_rfl)
    m2 := ns_none_of KX G (by kernel_rfl)
    m3 := ns_none_of KX G (by kernel_rfl)
    m4 := ns_none_of KX G (by kernel_rfl)
    m5 := ns_none_of KX G (by kernel_rfl)
    oi := ⟨.str "quic.errors" 194, .ref 34, KX _ _ (by kernel_rfl), codeRec_of KX (by kernel_rfl)⟩
    ex := ⟨name_at Y T.g (by kernel_rfl), T.builtins "Exception" (by decide)⟩
    st := ⟨name_at Y T.g (by kernel_rfl), T.builtins "str" (by decide)⟩ }
end
theorem ends_ok {prog : Program} {w : World} {h : Heap} {mg mb : Str → Option Value} {QC N FI : Addr} {mN : Str → Option Value} {k0 k1 k2 k3 k5 : Option Value} (W : Wf h mg mb) (QE : QeF h mg mb QC N FI mN k0 k1 k2 k3 k5) : EndsOk prog w h mg mb := by
  intro bx ba xs a cd n X
  exact fn_ends (C := ((lawC prog w h mg mb).boxed bx ba xs).callee "law" (dS 39) h.objs.size a cd) (lawC_wd (prog := prog) (w := w) W).boxed.callee X.callee (Nat.le_of_ble_eq_true rfl) QE (Around.frames_deeper rfl) rfl
end Mine
end
section
open PySem PySem.W PyProof.Rows
set_option linter.unusedVariables false
set_option linter.unusedSimpArgs false
set_option Elab.async false
namespace Mine
theorem enter_n {M : Model} {A : Around} {s : Shared} {f : Value} {pos : List Value} {c : ClaimW} {cl : Str → Option Addr} {mean : ExcName → Option Value} {args : List WData} {s₁ : Shared}
    (h : codeN M A (.call f ⟨pos, []⟩) (GoodWG c cl mean args s₁) s) : wpN M A (PySem.call f pos []) (fun v s' => GoodWG c cl mean args s₁ (.ok (.ret v)) s') (fun e s' => GoodWG c cl mean args s₁ (.error e) s') s :=
  nCall (cMono h fun res s' g => by rcases g.1 with ⟨v, _, _, rfl, _⟩ | ⟨e, _, _, rfl, _⟩ <;> exact g)
set_option maxRecDepth 100000 in
set_option maxHeartbeats 8000000 in
theorem top : PySem.Challenge.rw_pq0973_01.Holds := by
  refine Mine.hd9 ?_
  intro w s₀ s₁ mg mb G Y fa o pm cd doc dV kV ho hd hcd hD hmg hg args vals as hpre hlay hrd hwl hlo
  obtain ⟨KX, Y⟩ := Y
  have T := G.T
  w_strict (wrow_args hpre hlay hrd hwl hlo)
  refine enter_n ?_
  rename_i ns _ _ _ _ _ _ _ ls vs _ hl _ _ _ hi _ hlen _
  have he := Dflts.none hD rfl
  subst he
  have he := Dflts.noKw hD
  subst he
  obtain ⟨QC, N, FI, mN, k0, k1, k2, k3, k5, QE⟩ := qe_of T KX Y
  refine law_code_n (wf_of T KX Y) ho (fd_plain hd) hcd (by omega) hl hi (ends_ok (wf_of T KX Y) QE) read_ok fun h' tk m k => GoodW.toG ?_
  refine goodW_bool k hg (raisesW_false ?_) ?_
  · wrow_none_raised
  · wrow_post
end Mine
end
theorem PySem.Challenge.cw_pq0973_01_holds : PySem.Challenge.rw_pq0973_01.Holds :=
  Mine.top
