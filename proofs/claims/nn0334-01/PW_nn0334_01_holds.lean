import PyProof.Rows.All
import Wide.All
import OpenK.AllK
import KE.KDictSum
import Wide.FinOn
import PySem.Challenge.RW_nn0334_01
set_option Elab.async false
set_option linter.all false
set_option compiler.extract_closed false
open PySem PySem.W PySem.Calls PyProof.Rows
namespace Mine
section
set_option maxRecDepth 20000
inductive AV where
  | none
  | bool (b : Bool)
  | int (n : Int)
  | str (s : Str)
  | ref (a : Addr)
  | oth (v : Value)
noncomputable def er : Value → AV
  | .none => .none
  | .bool b => .bool b
  | .int n _ => .int n
  | .str s _ => .str s
  | .ref a => .ref a
  | v => .oth v
theorem er_none {v : Value} (h : er v = .none) : v = .none := by cases v <;> simp [er] at h ⊢
theorem er_bool {v : Value} {b : Bool} (h : er v = .bool b) : v = .bool b := by cases v <;> simp [er] at h ⊢; exact h
theorem er_int {v : Value} {n : Int} (h : er v = .int n) : ∃ t, v = .int n t := by cases v <;> simp [er] at h ⊢; exact h
theorem er_str {v : Value} {x : Str} (h : er v = .str x) : ∃ t, v = .str x t := by cases v <;> simp [er] at h ⊢; exact h
theorem er_ref {v : Value} {a : Addr} (h : er v = .ref a) : v = .ref a := by cases v <;> simp [er] at h ⊢; exact h
theorem er_oth {v w : Value} (h : er v = .oth w) : v = w := by cases v <;> simp [er] at h ⊢ <;> exact h
inductive MO where
  | ns (names : List (Str × NameKind)) (vals : List (Option AV))
  | lst (l : List AV)
  | tup (l : List AV)
  | dct (l : List (Int × AV))
  | dcs (n : Nat)
  | ins (C d : Addr)
  | fld (l : List (Str × AV))
  | cel (v : Option AV)
  | raw (o : Obj)
  | lit (a : Addr) (i : Nat)
  | tit (a : Addr) (i : Nat)
  | rit (x left : Int)
  | rng (x y : Int)
structure Cx where
  prog : Program
  w : World
  B : Heap
  O : OsState
noncomputable abbrev Cx.M (c : Cx) : Model := model c.prog c.w
noncomputable def MO.Ok (c : Cx) : MO → Obj → Prop
  | .ns names vals, o => ∃ es ep, o.data = .dict es ep ∧ StrKeys es ∧ ∀ (i : Nat) (x : Str) (k : NameKind) (v : AV), names[i]? = some (x, k) → vals[i]? = some (some v) → (nsFind es x).map er = some v
  | .lst l, o => ∃ vs n, o = W.listOf vs n ∧ vs.toList.map er = l
  | .tup l, o => ∃ vs n, o = { cls := .type "tuple", data := .seq vs n } ∧ vs.toList.map er = l
  | .dct l, o => ∃ kvs, o.IsDictOf (intKind c.prog c.w) kvs ∧ kvs.map (fun x => (x.1, er x.2)) = l
  | .dcs n, o => ∃ kvs, o.IsDictOf (strKind c.prog c.w) kvs ∧ kvs.length ≤ n
  | .ins C d, o => o = instObj C d
  | .fld l, o => ∃ es n, o = dictOf es n ∧ ∃ q : List (Str × Int × Tok × Value), es = q.map (fun x => (⟨x.2.1, .str x.1 x.2.2.1, x.2.2.2⟩ : DictEntry)) ∧ l = q.map fun x => (x.1, er x.2.2.2)
  | .cel v, o => ∃ x, o.data = .cell x ∧ x.map er = v
  | .raw o', o => o = o'
  | .lit a i, o => o.cls = .type "list_iterator" ∧ o.data = .fields #[.ref a, .int i 0]
  | .tit a i, o => o.cls = .type "tuple_iterator" ∧ o.data = .fields #[.ref a, .int i 0]
  | .rit x left, o => o = { cls := .type "range_iterator", dict := none, data := .fields #[rawInt x, rawInt left, rawInt 1], slots := #[] }
  | .rng x y, o => ∃ t u v, o = { cls := .type "range", dict := none, data := .fields #[.int x t, .int y u, .int 1 v], slots := #[] }
noncomputable abbrev Led := List (Addr × MO)
structure Hp (c : Cx) (σ : Led) (h : Heap) : Prop where
  keep : ∀ b o, c.B.get? b = some o → h.get? b = some o
  sz : c.B.objs.size ≤ h.objs.size
  has : ∀ p ∈ σ, (∃ o, h.get? p.1 = some o ∧ p.2.Ok c o) ∧ c.B.objs.size ≤ p.1
  nd : (σ.map (·.1)).Nodup
structure St (c : Cx) (σ : Led) (s : Shared) : Prop where
  hp : Hp c σ s.heap
  gens : s.gens = #[]
  os : s.os = c.O
noncomputable def W {α β : Type} (c : Cx) (A : Around) (t : Sem α) (ρ : α → β) (σ : Led) (Q : β → Led → Prop) : Prop :=
  ∀ s, St c σ s → wpAny c.M A t (fun a s' => ∃ σ', St c σ' s' ∧ Q (ρ a) σ') (fun _ _ => False) s
section
variable {α β γ δ : Type} {c : Cx} {A : Around} {σ : Led}
theorem W.mono {t : Sem α} {ρ : α → β} {Q Q' : β → Led → Prop} (h : W c A t ρ σ Q) (k : ∀ b σ', Q b σ' → Q' b σ') : W c A t ρ σ Q' := fun s hs =>
  wpAny_mono (h s hs) (fun _ _ ⟨σ', a, b⟩ => ⟨σ', a, k _ _ b⟩) (fun _ _ x => x)
theorem W.pure {a : α} {ρ : α → β} {Q : β → Led → Prop} (h : Q (ρ a) σ) : W c A (Pure.pure a) ρ σ Q := fun s hs => wpAny_pure ⟨σ, hs, h⟩
theorem W.bind {t : Sem α} {f : α → Sem γ} {ρ : α → β} {ρ' : γ → δ} {Q : δ → Led → Prop} (h : W c A t ρ σ (fun b σ1 => ∀ a, ρ a = b → W c A (f a) ρ' σ1 Q)) : W c A (t >>= f) ρ' σ Q := fun s hs =>
  wpAny_bind (wpAny_mono (h s hs) (fun a s' ⟨_, h1, k⟩ => k a rfl s' h1) (fun _ _ x => x))
end
inductive Up (a : Addr) (o o' : MO) : Led → Led → Prop
  | here {r} : Up a o o' ((a, o) :: r) ((a, o') :: r)
  | there {p r r'} : Up a o o' r r' → Up a o o' (p :: r) (p :: r')
  | skip {xs r r'} : Up a o o' r r' → Up a o o' (xs ++ r) (xs ++ r')
  | left {xs xs' r} : Up a o o' xs xs' → Up a o o' (xs ++ r) (xs' ++ r)
theorem Up.split {a o o' σ σ'} (h : Up a o o' σ σ') : ∃ l r, σ = l ++ (a, o) :: r ∧ σ' = l ++ (a, o') :: r := by
  induction h with
  | here => exact ⟨[], _, rfl, rfl⟩
  | @there p _ _ _ ih => obtain ⟨l, r, rfl, rfl⟩ := ih; exact ⟨p :: l, r, rfl, rfl⟩
  | @skip xs _ _ _ ih => obtain ⟨l, r, rfl, rfl⟩ := ih; exact ⟨xs ++ l, r, by simp, by simp⟩
  | @left _ _ z _ ih => obtain ⟨l, r, rfl, rfl⟩ := ih; exact ⟨l, r ++ z, by simp, by simp⟩
theorem Up.mem {a o o' σ σ'} (h : Up a o o' σ σ') : (a, o) ∈ σ := by
  obtain ⟨l, r, rfl, rfl⟩ := h.split; simp
theorem Up.keys {a o o' σ σ'} (h : Up a o o' σ σ') : σ'.map (·.1) = σ.map (·.1) := by
  obtain ⟨l, r, rfl, rfl⟩ := h.split; simp
theorem Up.all {a o o' σ σ'} (h : Up a o o' σ σ') : ∀ p ∈ σ', p = (a, o') ∨ p ∈ σ := by
  obtain ⟨l, r, rfl, rfl⟩ := h.split
  intro p hp
  rcases List.mem_append.mp hp with hp | hp
  · exact .inr (List.mem_append_left _ hp)
  · rcases List.mem_cons.mp hp with rfl | hp
    · exact .inl rfl
    · exact .inr (List.mem_append_right _ (.tail _ hp))
theorem Up.ne {a o o' σ σ'} (h : Up a o o' σ σ') (nd : (σ.map (·.1)).Nodup) : ∀ p ∈ σ', p = (a, o') ∨ (p ∈ σ ∧ p.1 ≠ a) := by
  obtain ⟨l, r, rfl, rfl⟩ := h.split
  rw [List.map_append, List.map_cons, List.nodup_append, List.nodup_cons] at nd
  obtain ⟨_, ⟨n2, _⟩, n3⟩ := nd
  intro p hp
  rcases List.mem_append.mp hp with hp | hp
  · exact .inr ⟨List.mem_append_left _ hp, n3 _ (List.mem_map_of_mem (f := (·.1)) hp) _ (.head _)⟩
  · rcases List.mem_cons.mp hp with rfl | hp
    · exact .inl rfl
    · refine .inr ⟨List.mem_append_right _ (.tail _ hp), fun e => ?_⟩
      exact n2 (e ▸ List.mem_map_of_mem (f := (·.1)) hp)
section
variable {c : Cx} {h h' : Heap} {σ σ' : Led} {a : Addr} {mo mo' : MO} {o : Obj}
theorem Hp.new (H : Hp c σ h) (hf : o.isFreed = false) (ho : mo.Ok c o) : Hp c ((h.objs.size, mo) :: σ) (h.push o) where
  keep b o' e := Heap.get?_push_of_some _ (H.keep b o' e)
  sz := by rw [Heap.size_push]; exact Nat.le_succ_of_le H.sz
  has p hp := by
    rcases List.mem_cons.mp hp with rfl | hp
    · exact ⟨⟨o, Heap.get?_push_size _ hf, ho⟩, H.sz⟩
    · obtain ⟨⟨o', e, k⟩, l⟩ := H.has p hp
      exact ⟨⟨o', Heap.get?_push_of_some _ e, k⟩, l⟩
  nd := by
    rw [List.map_cons, List.nodup_cons]
    refine ⟨fun q => ?_, H.nd⟩
    obtain ⟨p, hp, e⟩ := List.mem_map.mp q
    obtain ⟨⟨o', e', _⟩, _⟩ := H.has p hp
    have := Heap.lt_size e'
    rw [e] at this
    exact Nat.lt_irrefl _ this
theorem Hp.grow (H : Hp c σ h) (k : ∀ b o, h.get? b = some o → h'.get? b = some o) (hs : h.objs.size ≤ h'.objs.size) : Hp c σ h' where
  keep b o e := k _ _ (H.keep b o e)
  sz := Nat.le_trans H.sz hs
  has p hp := by
    obtain ⟨⟨o', e, q⟩, l⟩ := H.has p hp
    exact ⟨⟨o', k _ _ e, q⟩, l⟩
  nd := H.nd
theorem Hp.growL (H : Hp c σ h) (k : ∀ b o, h.get? b = some o → h'.get? b = some o) (hne : σ ≠ []) : Hp c σ h' where
  keep b o e := k _ _ (H.keep b o e)
  sz := by
    obtain ⟨q, hq⟩ := List.exists_mem_of_ne_nil _ hne
    obtain ⟨⟨o, e, _⟩, l⟩ := H.has q hq
    exact Nat.le_trans l (Nat.le_of_lt (Heap.lt_size (k _ _ e)))
  has p hp := by
    obtain ⟨⟨o', e, q⟩, l⟩ := H.has p hp
    exact ⟨⟨o', k _ _ e, q⟩, l⟩
  nd := H.nd
theorem Hp.push (H : Hp c σ h) (o : Obj) : Hp c σ (h.push o) := H.grow (fun _ _ e => Heap.get?_push_of_some _ e) (by rw [Heap.size_push]; exact Nat.le_succ _)
theorem Hp.change (H : Hp c σ h) (U : Up a mo mo' σ σ') (hs : Heap.SameBut a h h') {o' : Obj} (ho : h'.get? a = some o') (k : mo'.Ok c o') : Hp c σ' h' where
  keep b o e := by
    have hb : b < c.B.objs.size := Heap.lt_size e
    have ha : c.B.objs.size ≤ a := (H.has _ U.mem).2
    exact (hs.2 b (Nat.ne_of_lt (Nat.lt_of_lt_of_le hb ha))).trans (H.keep b o e)
  sz := by rw [hs.1]; exact H.sz
  has p hp := by
    rcases U.ne H.nd p hp with rfl | ⟨hm, hne⟩
    · exact ⟨⟨o', ho, k⟩, (H.has _ U.mem).2⟩
    · obtain ⟨⟨o2, e, q⟩, l⟩ := H.has p hm
      exact ⟨⟨o2, (hs.2 _ hne).trans e, q⟩, l⟩
  nd := by rw [U.keys]; exact H.nd
theorem Hp.at (H : Hp c σ h) (m : (a, mo) ∈ σ) : ∃ o, h.get? a = some o ∧ mo.Ok c o := (H.has _ m).1
theorem Hp.drop {p : Addr × MO} (H : Hp c (p :: σ) h) : Hp c σ h where
  keep := H.keep
  sz := H.sz
  has q hq := H.has q (.tail _ hq)
  nd := by have := H.nd; rw [List.map_cons, List.nodup_cons] at this; exact this.2
theorem Hp.sub (H : Hp c σ h) (hs : ∀ p ∈ σ', p ∈ σ) (nd : (σ'.map (·.1)).Nodup) : Hp c σ' h := ⟨H.keep, H.sz, fun p hp => H.has p (hs p hp), nd⟩
theorem Hp.weaken (H : Hp c σ h) (U : Up a mo mo' σ σ') (k : ∀ o, mo.Ok c o → mo'.Ok c o) : Hp c σ' h where
  keep := H.keep
  sz := H.sz
  has p hp := by
    rcases U.all p hp with rfl | hm
    · obtain ⟨⟨o2, e, q⟩, l⟩ := H.has _ U.mem
      exact ⟨⟨o2, e, k _ q⟩, l⟩
    · exact H.has p hm
  nd := by rw [U.keys]; exact H.nd
end
section
variable {c : Cx} {σ σ' : Led} {s : Shared} {h' : Heap} {tk : Nat}
theorem St.put (S : St c σ s) (H : Hp c σ' h') : St c σ' { s with heap := h', toks := tk } := ⟨H, S.gens, S.os⟩
theorem St.puth (S : St c σ s) (H : Hp c σ' h') : St c σ' { s with heap := h' } := ⟨H, S.gens, S.os⟩
theorem St.tok (S : St c σ s) : St c σ { s with toks := tk } := ⟨S.hp, S.gens, S.os⟩
end
inductive Rem (x : Addr × MO) : Led → Led → Prop
  | here {r} : Rem x (x :: r) r
  | there {y r r'} : Rem x r r' → Rem x (y :: r) (y :: r')
  | skip {xs r r'} : Rem x r r' → Rem x (xs ++ r) (xs ++ r')
inductive RemL (xs : Led) : Led → Led → Prop
  | here {r} : RemL xs (xs ++ r) r
  | all : RemL xs xs []
  | there {y r r'} : RemL xs r r' → RemL xs (y :: r) (y :: r')
  | skip {ys r r'} : RemL xs r r' → RemL xs (ys ++ r) (ys ++ r')
inductive Sb : Led → Led → Prop
  | same {σ} : Sb σ σ
  | nil {σ} : Sb [] σ
  | skip {τ σ z} : Sb τ σ → Sb τ (z :: σ)
  | skipL {τ σ zs} : Sb τ σ → Sb τ (zs ++ σ)
  | cons {x τ σ σ'} : Rem x σ σ' → Sb τ σ' → Sb (x :: τ) σ
  | consL {xs τ σ σ'} : RemL xs σ σ' → Sb τ σ' → Sb (xs ++ τ) σ
theorem Rem.perm {x σ σ'} (h : Rem x σ σ') : σ.Perm (x :: σ') := by
  induction h with
  | here => exact .refl _
  | there _ ih => exact (ih.cons _).trans (.swap ..)
  | @skip xs _ _ _ ih => exact (ih.append_left xs).trans List.perm_middle
theorem RemL.perm {xs σ σ'} (h : RemL xs σ σ') : σ.Perm (xs ++ σ') := by
  induction h with
  | here => exact .refl _
  | all => simp
  | there _ ih => exact (ih.cons _).trans (List.perm_middle.symm)
  | @skip ys r r' _ ih =>
    refine (ih.append_left ys).trans ?_
    rw [← List.append_assoc, ← List.append_assoc]
    exact List.perm_append_comm.append_right _
theorem Sb.split {τ σ} (h : Sb τ σ) : ∃ ρ, σ.Perm (τ ++ ρ) := by
  induction h with
  | @same σ => exact ⟨[], by simp⟩
  | @nil σ => exact ⟨σ, by simp⟩
  | @skip τ σ z _ ih => obtain ⟨ρ, a⟩ := ih; exact ⟨z :: ρ, (a.cons z).trans List.perm_middle.symm⟩
  | @skipL τ σ zs _ ih =>
    obtain ⟨ρ, a⟩ := ih
    refine ⟨zs ++ ρ, (a.append_left zs).trans ?_⟩
    rw [← List.append_assoc, ← List.append_assoc]
    exact List.perm_append_comm.append_right _
  | cons hr _ ih => obtain ⟨ρ, a⟩ := ih; exact ⟨ρ, hr.perm.trans (a.cons _)⟩
  | consL hr _ ih =>
    obtain ⟨ρ, a⟩ := ih
    refine ⟨ρ, hr.perm.trans ((a.append_left _).trans ?_)⟩
    rw [List.append_assoc]
theorem Sb.trans {τ σ υ} (h : Sb τ σ) (k : Sb σ υ) : ∃ ρ, υ.Perm (τ ++ ρ) := by
  obtain ⟨ρ, a⟩ := h.split
  obtain ⟨ρ', b⟩ := k.split
  exact ⟨ρ ++ ρ', b.trans ((a.append_right ρ').trans (by rw [List.append_assoc]))⟩
theorem Hp.perm {c : Cx} {τ σ ρ : Led} {h : Heap} (H : Hp c σ h) (a : σ.Perm (τ ++ ρ)) : Hp c τ h :=
  ⟨H.keep, H.sz, fun p hp => H.has p (a.mem_iff.mpr (List.mem_append_left _ hp)), by
    have := ((a.map (·.1)).nodup_iff).mp H.nd
    rw [List.map_append] at this
    exact (List.nodup_append.mp this).1⟩
theorem Hp.sb {c : Cx} {τ σ : Led} {h : Heap} (H : Hp c σ h) (hs : Sb τ σ) : Hp c τ h := by
  obtain ⟨ρ, a⟩ := hs.split
  exact H.perm a
theorem St.sb {c : Cx} {τ σ : Led} {s : Shared} (H : St c σ s) (hs : Sb τ σ) : St c τ s := ⟨H.hp.sb hs, H.gens, H.os⟩
theorem W.weak {α β : Type} {c : Cx} {A : Around} {t : Sem α} {ρ : α → β} {σ σ' : Led} {Q : β → Led → Prop} (h : W c A t ρ σ' Q) (k : ∀ hp, Hp c σ hp → Hp c σ' hp) : W c A t ρ σ Q :=
  fun s hs => h s ⟨k _ hs.hp, hs.gens, hs.os⟩
end
section
set_option maxRecDepth 20000
inductive AF where
  | next | brk | cont
  | ret (v : AV)
noncomputable def erF : Flow → AF
  | .next => .next
  | .brk => .brk
  | .cont => .cont
  | .ret v => .ret (er v)
noncomputable def X (c : Cx) (A : Around) (t : Sem Flow) (σ : Led) (N B C : Led → Prop) (R : AV → Led → Prop) : Prop :=
  W c A t erF σ fun f σ' => match f with | .next => N σ' | .brk => B σ' | .cont => C σ' | .ret v => R v σ'
noncomputable def T (c : Cx) (A : Around) (t : Sem Bool) (σ : Led) (P N : Led → Prop) : Prop := W c A t id σ fun b σ' => (b = true → P σ') ∧ (b = false → N σ')
noncomputable abbrev E (c : Cx) (A : Around) (env : Env) (e : Expr) (σ : Led) (Q : AV → Led → Prop) : Prop := W c A (eval e env) er σ Q
structure FrOk (env : Env) (L : Addr) (names : List (Str × NameKind)) : Prop where
  kind : env.scope.kind = .function
  nms : env.scope.names = names
  nd : (names.map (·.1)).Nodup
  dbg : ∀ p ∈ names, (p.1 == ("__debug__" : Str)) = false
  loc : env.locals = L
  glob : env.globals = mainGlobals
  bi : env.builtins = builtinsNs
inductive LocAt : List (Str × NameKind) → List (Option AV) → Str → AV → Prop
  | here {x ns v vs} : LocAt ((x, .local) :: ns) (some v :: vs) x v
  | there {p ns u vs x v} : LocAt ns vs x v → LocAt (p :: ns) (u :: vs) x v
inductive StAt : List (Str × NameKind) → List (Option AV) → Str → AV → List (Option AV) → Prop
  | here {x ns u v vs} : StAt ((x, .local) :: ns) (u :: vs) x v (some v :: vs)
  | there {p ns u vs x v vs'} : StAt ns vs x v vs' → StAt (p :: ns) (u :: vs) x v (u :: vs')
inductive KdAt : List (Str × NameKind) → Str → NameKind → Prop
  | here {x k ns} : KdAt ((x, k) :: ns) x k
  | there {p ns x k} : KdAt ns x k → KdAt (p :: ns) x k
theorem LocAt.idx {ns vs x v} (h : LocAt ns vs x v) : ∃ i : Nat, ns[i]? = some (x, NameKind.local) ∧ vs[i]? = some (some v) := by
  induction h with
  | here => exact ⟨0, rfl, rfl⟩
  | there _ ih => obtain ⟨i, a, b⟩ := ih; exact ⟨i + 1, a, b⟩
theorem LocAt.kd {ns vs x v} (h : LocAt ns vs x v) : KdAt ns x .local := by
  induction h with
  | here => exact .here
  | there _ ih => exact .there ih
theorem KdAt.mem {ns x k} (h : KdAt ns x k) : (x, k) ∈ ns := by
  induction h with
  | here => exact .head _
  | there _ ih => exact .tail _ ih
theorem lookup_of_mem : ∀ {ns : List (Str × NameKind)} {x : Str} {k : NameKind}, (ns.map (·.1)).Nodup → (x, k) ∈ ns → ns.lookup x = some k
  | p :: ns, x, k, nd, m => by
    rw [List.map_cons, List.nodup_cons] at nd
    rcases List.mem_cons.mp m with rfl | m
    · simp [List.lookup_cons]
    · have : x ≠ p.1 := fun e => nd.1 (e ▸ List.mem_map_of_mem (f := (·.1)) m)
      rw [List.lookup_cons]
      have e : (x == p.1) = false := by simp [this]
      rw [e]
      exact lookup_of_mem nd.2 m
theorem FrOk.kd {env L names x k} (F : FrOk env L names) (h : KdAt names x k) : env.kindOf x = some k := by
  unfold Env.kindOf
  rw [F.nms]
  exact lookup_of_mem F.nd h.mem
theorem FrOk.nodbg {env L names x k} (F : FrOk env L names) (h : KdAt names x k) : (x == ("__debug__" : Str)) = false := F.dbg _ h.mem
theorem StAt.kd {ns vs x v vs'} (h : StAt ns vs x v vs') : KdAt ns x .local := by
  induction h with
  | here => exact .here
  | there _ ih => exact .there ih
theorem StAt.get {ns vs x v vs'} (h : StAt ns vs x v vs') (nd : (ns.map (·.1)).Nodup) : ∀ (i : Nat) (y : Str) (k : NameKind) (u : AV), ns[i]? = some (y, k) → vs'[i]? = some (some u) → (y = x ∧ u = v) ∨ (y ≠ x ∧ vs[i]? = some (some u)) := by
  induction h with
  | @here x ns u v vs =>
    intro i y k w hn hv
    rw [List.map_cons, List.nodup_cons] at nd
    cases i with
    | zero => simp at hn hv; exact .inl ⟨hn.1.symm, hv.symm⟩
    | succ i =>
      refine .inr ⟨fun e => ?_, hv⟩
      have : (y, k) ∈ ns := List.mem_of_getElem? hn
      exact nd.1 (e ▸ List.mem_map_of_mem (f := (·.1)) this)
  | @there p ns u vs x v vs' h ih =>
    intro i y k w hn hv
    rw [List.map_cons, List.nodup_cons] at nd
    cases i with
    | zero =>
      simp at hn hv
      refine .inr ⟨fun e => ?_, by simp [hv]⟩
      subst hn
      exact nd.1 (e ▸ List.mem_map_of_mem (f := (·.1)) h.kd.mem)
    | succ i => exact ih nd.2 i y k w hn hv
section
variable {c : Cx} {A : Around} {env : Env} {L : Addr} {names : List (Str × NameKind)} {vals vals' : List (Option AV)} {σ σ' : Led} {x : Str} {v : AV} {pos : Pos}
theorem ns_of {h : Heap} (H : Hp c σ h) (m : (L, .ns names vals) ∈ σ) : ∃ m0, h.Ns L m0 ∧ ∀ (i : Nat) (x : Str) (k : NameKind) (v : AV), names[i]? = some (x, k) → vals[i]? = some (some v) → (m0 x).map er = some v := by
  obtain ⟨o, ho, es, ep, hd, hk, hv⟩ := H.at m
  exact ⟨nsFind es, ⟨o, es, ep, ho, hd, hk, fun _ => rfl⟩, hv⟩
theorem e_local {Q : AV → Led → Prop} (F : FrOk env L names) (m : (L, .ns names vals) ∈ σ) (l : LocAt names vals x v) (h : Q v σ) : E c A env (.Name x pos) σ Q := fun s hs => by
  obtain ⟨m0, N, hv⟩ := ns_of hs.hp m
  obtain ⟨i, h1, h2⟩ := l.idx
  obtain ⟨v0, e0, e1⟩ := Option.map_eq_some_iff.mp (hv i x .local v h1 h2)
  exact wpAny_Name (wpAny_loadName_local F.kind (F.kd l.kd) (F.loc ▸ N) e0 ⟨σ, hs, e1 ▸ h⟩) (F.nodbg l.kd)
theorem n_local {Q : AV → Led → Prop} (F : FrOk env L names) (m : (L, .ns names vals) ∈ σ) (l : LocAt names vals x v) (h : Q v σ) : W c A (loadName env x) er σ Q := fun s hs => by
  obtain ⟨m0, N, hv⟩ := ns_of hs.hp m
  obtain ⟨i, h1, h2⟩ := l.idx
  obtain ⟨v0, e0, e1⟩ := Option.map_eq_some_iff.mp (hv i x .local v h1 h2)
  exact wpAny_loadName_local F.kind (F.kd l.kd) (F.loc ▸ N) e0 ⟨σ, hs, e1 ▸ h⟩
theorem st_local {v0 : Value} {Q : Unit → Led → Prop} (F : FrOk env L names) (U : Up L (.ns names vals) (.ns names vals') σ σ') (S : StAt names vals x (er v0) vals') (h : Q () σ') : W c A (storeName env x v0) id σ Q := fun s hs => by
  obtain ⟨m0, N, hv⟩ := ns_of hs.hp U.mem
  refine wpAny_storeName_local (F.kd S.kd) (F.loc ▸ N) (fun h' hn hsb => ⟨σ', ?_, h⟩) ?_
  · refine St.put hs ?_
    rw [F.loc] at hn hsb
    obtain ⟨o, es, ep, ho, hd, hk, hf⟩ := hn
    refine hs.hp.change U hsb ho ⟨es, ep, hd, hk, fun i y k u hi hu => ?_⟩
    rw [hf]
    rcases S.get F.nd i y k u hi hu with ⟨rfl, rfl⟩ | ⟨hne, hu'⟩
    · simp
    · show Option.map er (if y = x then some v0 else m0 y) = some u
      rw [if_neg hne]; exact hv i y k u hi hu'
  · rw [F.kind]; rfl
noncomputable def Gl (c : Cx) (x : Str) (v : Value) : Prop :=
  (∃ mg, c.B.Ns mainGlobals mg ∧ mg x = some v) ∨ (∃ mg mb, c.B.Ns mainGlobals mg ∧ mg x = none ∧ c.B.Ns builtinsNs mb ∧ mb x = some v)
theorem e_glob {Q : AV → Led → Prop} {v : Value} (F : FrOk env L names) (k : KdAt names x .globalImplicit) (g : Gl c x v) (h : Q (er v) σ) : E c A env (.Name x pos) σ Q := fun s hs => by
  refine Name_function_global F.kind (F.kd k) ?_ (F.nodbg k)
  rcases g with ⟨mg, hg, e⟩ | ⟨mg, mb, hg, e0, hb, e⟩
  · exact loadGlobal_global (F.glob ▸ hg.keeps hs.hp.keep) e ⟨σ, hs, h⟩
  · exact loadGlobal_builtin (F.glob ▸ hg.keeps hs.hp.keep) e0 (F.bi ▸ hb.keeps hs.hp.keep) e ⟨σ, hs, h⟩
theorem e_int {Q : AV → Led → Prop} {i : Int} {k : Nat} (h : Q (.int i) σ) : E c A env (.Constant (.int i) k pos) σ Q := fun s hs => wpAny_Constant_int ⟨σ, hs.tok, h⟩
theorem e_str {Q : AV → Led → Prop} {i : Str} {k : Nat} (h : Q (.str i) σ) : E c A env (.Constant (.str i) k pos) σ Q := fun s hs => Constant_str ⟨σ, hs.tok, h⟩
theorem e_bool {Q : AV → Led → Prop} {i : Bool} {k : Nat} (h : Q (.bool i) σ) : E c A env (.Constant (.bool i) k pos) σ Q := fun s hs => Constant_bool ⟨σ, hs, h⟩
theorem e_none {Q : AV → Led → Prop} {k : Nat} (h : Q .none σ) : E c A env (.Constant .none k pos) σ Q := fun s hs => Constant_none ⟨σ, hs, h⟩
noncomputable def Op2 {α β : Type} (c : Cx) (A : Around) (t : Value → Value → Sem α) (ρ : α → β) (a b : AV) (σ : Led) (Q : β → Led → Prop) : Prop := ∀ v w, er v = a → er w = b → W c A (t v w) ρ σ Q
noncomputable def Op1 {α β : Type} (c : Cx) (A : Around) (t : Value → Sem α) (ρ : α → β) (a : AV) (σ : Led) (Q : β → Led → Prop) : Prop := ∀ v, er v = a → W c A (t v) ρ σ Q
theorem Op2.mono {α β : Type} {t : Value → Value → Sem α} {ρ : α → β} {a b : AV} {Q Q' : β → Led → Prop} (h : Op2 c A t ρ a b σ Q) (k : ∀ x σ', Q x σ' → Q' x σ') : Op2 c A t ρ a b σ Q' := fun v w hv hw => (h v w hv hw).mono k
theorem Op1.mono {α β : Type} {t : Value → Sem α} {ρ : α → β} {a : AV} {Q Q' : β → Led → Prop} (h : Op1 c A t ρ a σ Q) (k : ∀ x σ', Q x σ' → Q' x σ') : Op1 c A t ρ a σ Q' := fun v hv => (h v hv).mono k
theorem e_bin {l r : Expr} {op : Operator} {Q : AV → Led → Prop} (h : E c A env l σ fun a σ1 => E c A env r σ1 fun b σ2 => Op2 c A (binaryOp op) er a b σ2 Q) : E c A env (.BinOp l op r pos) σ Q := fun s hs =>
  wpAny_BinOp (wpAny_mono (h s hs) (fun v1 s1 ⟨σ1, h1, k1⟩ => wpAny_mono (k1 s1 h1) (fun v2 s2 ⟨σ2, h2, k2⟩ => k2 v1 v2 rfl rfl s2 h2) fun _ _ x => x.elim) fun _ _ x => x.elim)
theorem e_cmp {l r : Expr} {op : CmpOp} {Q : AV → Led → Prop} (h : E c A env l σ fun a σ1 => E c A env r σ1 fun b σ2 => Op2 c A (compareOp op) er a b σ2 Q) (hm : behindInMarks op r = false := by with_unfolding_all rfl) : E c A env (.Compare l [op] [r] pos) σ Q := fun s hs =>
  wpAny_Compare1 (wpAny_mono (h s hs) (fun v1 s1 ⟨σ1, h1, k1⟩ => wpAny_mono (k1 s1 h1) (fun v2 s2 ⟨σ2, h2, k2⟩ => k2 v1 v2 rfl rfl s2 h2) fun _ _ x => x.elim) fun _ _ x => x.elim) hm
theorem e_ifexp {test body orelse : Expr} {Q : AV → Led → Prop} (h : T c A (isTrue test env (eval test env)) σ (fun σ1 => E c A env body σ1 Q) (fun σ1 => E c A env orelse σ1 Q)) : E c A env (.IfExp test body orelse pos) σ Q := fun s hs =>
  IfExp_ (wpAny_mono (h s hs) (fun b s1 ⟨σ1, h1, k1⟩ => by cases b with
    | true => exact k1.1 rfl s1 h1
    | false => exact k1.2 rfl s1 h1) fun _ _ x => x.elim)
noncomputable def Tv (c : Cx) (A : Around) (a : AV) (σ : Led) (P N : Led → Prop) : Prop := ∀ v, er v = a → T c A (truthy v) σ P N
theorem e_and {e₁ e₂ : Expr} {rest : List Expr} {Q : AV → Led → Prop} (h : E c A env e₁ σ fun a σ1 => Tv c A a σ1 (fun σ2 => E c A env (.BoolOp .And (e₂ :: rest) pos) σ2 Q) (fun σ2 => Q a σ2)) : E c A env (.BoolOp .And (e₁ :: e₂ :: rest) pos) σ Q := fun s hs =>
  BoolOp_and (wpAny_mono (h s hs) (fun v1 s1 ⟨σ1, h1, k1⟩ => wpAny_mono (k1 v1 rfl s1 h1) (fun b s2 ⟨σ2, h2, k2⟩ => by cases b with
    | true => exact k2.1 rfl s2 h2
    | false => exact ⟨σ2, h2, k2.2 rfl⟩) fun _ _ x => x.elim) fun _ _ x => x.elim)
theorem e_bool1 {op : BoolOp} {e₁ : Expr} {Q : AV → Led → Prop} (h : E c A env e₁ σ Q) : E c A env (.BoolOp op [e₁] pos) σ Q := fun s hs => BoolOp_one (h s hs)
theorem t_cmp {l r : Expr} {op : CmpOp} {whole : Sem Value} {P N : Led → Prop} (h : E c A env l σ fun a σ1 => E c A env r σ1 fun b σ2 => Op2 c A (compareOp op) er a b σ2 fun v σ3 => Tv c A v σ3 P N) (hm : behindInMarks op r = false := by with_unfolding_all rfl) : T c A (isTrue (.Compare l [op] [r] pos) env whole) σ P N := fun s hs =>
  wpAny_isTrue_Compare1 (wpAny_mono (h s hs) (fun v1 s1 ⟨σ1, h1, k1⟩ => wpAny_mono (k1 s1 h1) (fun v2 s2 ⟨σ2, h2, k2⟩ => wpAny_mono (k2 v1 v2 rfl rfl s2 h2) (fun v3 s3 ⟨σ3, h3, k3⟩ => k3 v3 rfl s3 h3) fun _ _ x => x.elim) fun _ _ x => x.elim) fun _ _ x => x.elim) hm
theorem t_not {e : Expr} {whole : Sem Value} {P N : Led → Prop} (h : T c A (isTrue e env (eval e env)) σ N P) : T c A (isTrue (.UnaryOp .Not e pos) env whole) σ P N := fun s hs =>
  isTrue_not (wpAny_mono (h s hs) (fun b s1 ⟨σ1, h1, k1⟩ => ⟨σ1, h1, by cases b with
    | true => exact ⟨fun e => (nomatch e), fun _ => k1.1 rfl⟩
    | false => exact ⟨fun _ => k1.2 rfl, fun e => (nomatch e)⟩⟩) fun _ _ x => x.elim)
theorem t_and {e : Expr} {rest : List Expr} {whole : Sem Value} {P N : Led → Prop} (h : T c A (isTrue e env (eval e env)) σ (fun σ1 => T c A (isTrue (.BoolOp .And rest pos) env whole) σ1 P N) N) : T c A (isTrue (.BoolOp .And (e :: rest) pos) env whole) σ P N := fun s hs =>
  isTrue_and (wpAny_mono (h s hs) (fun b s1 ⟨σ1, h1, k1⟩ => by cases b with
    | true => exact k1.1 rfl s1 h1
    | false => exact ⟨σ1, h1, fun e => (nomatch e), k1.2⟩) fun _ _ x => x.elim)
theorem t_and0 {whole : Sem Value} {P N : Led → Prop} (h : P σ) : T c A (isTrue (.BoolOp .And [] pos) env whole) σ P N := fun s hs => isTrue_and_nil ⟨σ, hs, fun _ => h, fun e => (nomatch e)⟩
theorem t_or {e : Expr} {rest : List Expr} {whole : Sem Value} {P N : Led → Prop} (h : T c A (isTrue e env (eval e env)) σ P (fun σ1 => T c A (isTrue (.BoolOp .Or rest pos) env whole) σ1 P N)) : T c A (isTrue (.BoolOp .Or (e :: rest) pos) env whole) σ P N := fun s hs =>
  isTrue_or (wpAny_mono (h s hs) (fun b s1 ⟨σ1, h1, k1⟩ => by cases b with
    | true => exact ⟨σ1, h1, k1.1, fun e => (nomatch e)⟩
    | false => exact k1.2 rfl s1 h1) fun _ _ x => x.elim)
theorem t_or0 {whole : Sem Value} {P N : Led → Prop} (h : N σ) : T c A (isTrue (.BoolOp .Or [] pos) env whole) σ P N := fun s hs => isTrue_or_nil ⟨σ, hs, fun e => (nomatch e), fun _ => h⟩
theorem t_plain {e : Expr} {P N : Led → Prop} (h : E c A env e σ fun a σ1 => Tv c A a σ1 P N)
    (he : isTrue e env (eval e env) = (do let v ← eval e env; standAt e.pos; holding [v] (truthy v)) := by with_unfolding_all rfl) : T c A (isTrue e env (eval e env)) σ P N := fun s hs =>
  isTrue_plain (wpAny_mono (h s hs) (fun v1 s1 ⟨σ1, h1, k1⟩ => k1 v1 rfl s1 h1) fun _ _ x => x.elim) he
theorem tv_bool {b : Bool} {P N : Led → Prop} (h1 : b = true → P σ) (h2 : b = false → N σ) : Tv c A (.bool b) σ P N := fun v hv => by
  cases er_bool hv
  exact fun s hs => wpAny_truthy_bool ⟨σ, hs, h1, h2⟩
theorem x_nil {N B C : Led → Prop} {R : AV → Led → Prop} (h : N σ) : X c A (execs [] env) σ N B C R := fun s hs => wpAny_execs_nil ⟨σ, hs, h⟩
theorem x_cons {st : Stmt} {rest : List Stmt} {N B C : Led → Prop} {R : AV → Led → Prop} (h : X c A (exec st env) σ (fun σ1 => X c A (execs rest env) σ1 N B C R) B C R) : X c A (execs (st :: rest) env) σ N B C R := fun s hs =>
  wpAny_execs_cons (wpAny_mono (h s hs) (fun f s1 ⟨σ1, h1, k1⟩ => by
    cases f with
    | next => exact k1 s1 h1
    | brk => exact ⟨σ1, h1, k1⟩
    | cont => exact ⟨σ1, h1, k1⟩
    | ret v => exact ⟨σ1, h1, k1⟩) fun _ _ x => x.elim)
theorem x_if {test : Expr} {body orelse : List Stmt} {N B C : Led → Prop} {R : AV → Led → Prop} (h : T c A (isTrue test env (eval test env)) σ (fun σ1 => X c A (execs body env) σ1 N B C R) (fun σ1 => X c A (execs orelse env) σ1 N B C R)) : X c A (exec (.If test body orelse pos) env) σ N B C R := fun s hs =>
  wpAny_If (wpAny_mono (h s hs) (fun b s1 ⟨σ1, h1, k1⟩ => by cases b with
    | true => exact k1.1 rfl s1 h1
    | false => exact k1.2 rfl s1 h1) fun _ _ x => x.elim)
theorem x_ret {e : Expr} {N B C : Led → Prop} {R : AV → Led → Prop} (h : E c A env e σ R) : X c A (exec (.Return (some e) pos) env) σ N B C R := fun s hs => by
  rw [exec_Return_some]
  exact wpAny_bind (wpAny_standAt (wpAny_bind (wpAny_mono (h s hs) (fun v s1 ⟨σ1, h1, k1⟩ => wpAny_pure ⟨σ1, h1, k1⟩) fun _ _ x => x.elim)))
theorem x_assign {e : Expr} {pos' : Pos} {N B C : Led → Prop} {R : AV → Led → Prop} (h : E c A env e σ fun v σ1 => Op1 c A (storeName env x) id v σ1 fun _ σ2 => N σ2)
    (hs : swapsWith e (some (.Name x pos')) pos.line env = pure false := by with_unfolding_all rfl) : X c A (exec (.Assign [.Name x pos'] e pos) env) σ N B C R := fun s hst =>
  wpAny_Assign_Name (wpAny_mono (h s hst) (fun v s1 ⟨σ1, h1, k1⟩ => wpAny_mono (k1 v rfl s1 h1) (fun _ s2 ⟨σ2, h2, k2⟩ => ⟨σ2, h2, k2⟩) fun _ _ x => x.elim) fun _ _ x => x.elim) hs
theorem o_store {Q : Unit → Led → Prop} (F : FrOk env L names) (U : Up L (.ns names vals) (.ns names vals') σ σ') (S : StAt names vals x v vals') (h : Q () σ') : Op1 c A (storeName env x) id v σ Q := fun v0 hv => st_local F U (by rw [hv]; exact S) h
theorem x_aug {e : Expr} {op : Operator} {pos' : Pos} {N B C : Led → Prop} {R : AV → Led → Prop}
    (h : W c A (loadName env x) er σ fun old σ1 => E c A env e σ1 fun v σ2 => Op2 c A (inplaceOp op) er old v σ2 fun r σ3 => Op1 c A (storeName env x) id r σ3 fun _ σ4 => N σ4) : X c A (exec (.AugAssign (.Name x pos') op e pos) env) σ N B C R := fun s hst =>
  wpAny_AugAssign_Name (wpAny_mono (h s hst) (fun v s1 ⟨σ1, h1, k1⟩ => wpAny_mono (k1 s1 h1) (fun v2 s2 ⟨σ2, h2, k2⟩ => wpAny_mono (k2 v v2 rfl rfl s2 h2) (fun v3 s3 ⟨σ3, h3, k3⟩ => wpAny_mono (k3 v3 rfl s3 h3) (fun _ s4 ⟨σ4, h4, k4⟩ => ⟨σ4, h4, k4⟩) fun _ _ x => x.elim) fun _ _ x => x.elim) fun _ _ x => x.elim) fun _ _ x => x.elim)
end
end
section
set_option maxRecDepth 20000
section
variable {c : Cx} {A : Around} {σ : Led} {a b : Int}
theorem ints2 {α β : Type} {t : Value → Value → Sem α} {ρ : α → β} {Q : β → Led → Prop} (h : ∀ (x y : Tok) (s : Shared), St c σ s → wpAny c.M A (t (.int a x) (.int b y)) (fun r s' => ∃ σ', St c σ' s' ∧ Q (ρ r) σ') (fun _ _ => False) s) : Op2 c A t ρ (.int a) (.int b) σ Q := by
  intro v w hv hw s hs; obtain ⟨_, rfl⟩ := er_int hv; obtain ⟨_, rfl⟩ := er_int hw; exact h _ _ s hs
theorem o_add {Q : AV → Led → Prop} (h : Q (.int (a + b)) σ) : Op2 c A (binaryOp .Add) er (.int a) (.int b) σ Q := by refine ints2 fun _ _ s hs => ?_; exact P.add_int ⟨σ, hs.tok, h⟩
theorem o_sub {Q : AV → Led → Prop} (h : Q (.int (a - b)) σ) : Op2 c A (binaryOp .Sub) er (.int a) (.int b) σ Q := by refine ints2 fun _ _ s hs => ?_; exact P.sub_int ⟨σ, hs.tok, h⟩
theorem i_add {Q : AV → Led → Prop} (h : Q (.int (a + b)) σ) : Op2 c A (inplaceOp .Add) er (.int a) (.int b) σ Q := by refine ints2 fun _ _ s hs => ?_; exact P.iadd_int ⟨σ, hs.tok, h⟩
theorem i_sub {Q : AV → Led → Prop} (h : Q (.int (a - b)) σ) : Op2 c A (inplaceOp .Sub) er (.int a) (.int b) σ Q := by refine ints2 fun _ _ s hs => ?_; exact P.isub_int ⟨σ, hs.tok, h⟩
theorem o_mul {Q : AV → Led → Prop} (h : Q (.int (a * b)) σ) (hm : -(2 ^ 64) < a ∧ a < 2 ^ 64) : Op2 c A (binaryOp .Mult) er (.int a) (.int b) σ Q := by
  refine ints2 fun _ _ s hs => ?_; exact P.mul_int ⟨σ, hs.tok, h⟩ (IntMulOk.of_left (intBits_le_64 hm.1 hm.2))
theorem o_mod {Q : AV → Led → Prop} (hb : b ≠ 0) (h : Q (.int (Int.fmod a b)) σ) : Op2 c A (binaryOp .Mod) er (.int a) (.int b) σ Q := by refine ints2 fun _ _ s hs => ?_; exact mod_int' hb ⟨σ, hs.tok, h⟩
theorem o_div {Q : AV → Led → Prop} (hb : b ≠ 0) (h : Q (.int (Int.fdiv a b)) σ) (hp : Builtin.divisionGoesByPylong a b = false) : Op2 c A (binaryOp .FloorDiv) er (.int a) (.int b) σ Q := by refine ints2 fun _ _ s hs => ?_; exact floordiv_int hb ⟨σ, hs.tok, h⟩ (.inl hp)
theorem o_pow {Q : AV → Led → Prop} (h0 : 0 ≤ b) (h1 : b ≤ 1000000) (ha : a.natAbs < 2 ^ 64) (h : Q (.int (a ^ b.toNat)) σ) : Op2 c A (binaryOp .Pow) er (.int a) (.int b) σ Q := by refine ints2 fun _ _ s hs => ?_; exact pow_int_small h0 h1 ha ⟨σ, hs.tok, h⟩
theorem o_shl {Q : AV → Led → Prop} (h0 : 0 ≤ b) (h1 : b ≤ 1000000) (ha : a.natAbs < 2 ^ 64) (h : Q (.int (a * 2 ^ b.toNat)) σ) : Op2 c A (binaryOp .LShift) er (.int a) (.int b) σ Q := by refine ints2 fun _ _ s hs => ?_; exact lshift_int_small h0 h1 ha ⟨σ, hs.tok, h⟩
theorem o_shr {Q : AV → Led → Prop} (h0 : 0 ≤ b) (h : Q (.int (Int.fdiv a (2 ^ b.toNat))) σ) : Op2 c A (binaryOp .RShift) er (.int a) (.int b) σ Q := by refine ints2 fun _ _ s hs => ?_; exact rshift_int h0 ⟨σ, hs.tok, h⟩
theorem o_band {Q : AV → Led → Prop} (h : Q (.int (Builtin.bitAnd a b)) σ) : Op2 c A (binaryOp .BitAnd) er (.int a) (.int b) σ Q := by refine ints2 fun _ _ s hs => ?_; exact and_int ⟨σ, hs.tok, h⟩
theorem o_bor {Q : AV → Led → Prop} (h : Q (.int (Builtin.bitOr a b)) σ) : Op2 c A (binaryOp .BitOr) er (.int a) (.int b) σ Q := by refine ints2 fun _ _ s hs => ?_; exact or_int ⟨σ, hs.tok, h⟩
theorem o_bxor {Q : AV → Led → Prop} (h : Q (.int (Builtin.bitXor a b)) σ) : Op2 c A (binaryOp .BitXor) er (.int a) (.int b) σ Q := by refine ints2 fun _ _ s hs => ?_; exact xor_int ⟨σ, hs.tok, h⟩
theorem o_eq {Q : AV → Led → Prop} (h : Q (.bool (decide (a = b))) σ) : Op2 c A (compareOp .Eq) er (.int a) (.int b) σ Q := by refine ints2 fun _ _ s hs => ?_; exact P.eq_int ⟨σ, hs, h⟩
theorem o_ne {Q : AV → Led → Prop} (h : Q (.bool (decide (a ≠ b))) σ) : Op2 c A (compareOp .NotEq) er (.int a) (.int b) σ Q := by
  refine ints2 fun _ _ s hs => ?_; refine P.ne_int ⟨σ, hs, ?_⟩
  have : (a != b) = decide (a ≠ b) := by by_cases q : a = b <;> simp [q]
  show Q (.bool (a != b)) σ
  rw [this]; exact h
theorem o_lt {Q : AV → Led → Prop} (h : Q (.bool (decide (a < b))) σ) : Op2 c A (compareOp .Lt) er (.int a) (.int b) σ Q := by refine ints2 fun _ _ s hs => ?_; exact P.lt_int ⟨σ, hs, h⟩
theorem o_le {Q : AV → Led → Prop} (h : Q (.bool (decide (a ≤ b))) σ) : Op2 c A (compareOp .LtE) er (.int a) (.int b) σ Q := by refine ints2 fun _ _ s hs => ?_; exact P.le_int ⟨σ, hs, h⟩
theorem o_gt {Q : AV → Led → Prop} (h : Q (.bool (decide (a > b))) σ) : Op2 c A (compareOp .Gt) er (.int a) (.int b) σ Q := by refine ints2 fun _ _ s hs => ?_; exact P.gt_int ⟨σ, hs, h⟩
theorem o_ge {Q : AV → Led → Prop} (h : Q (.bool (decide (a ≥ b))) σ) : Op2 c A (compareOp .GtE) er (.int a) (.int b) σ Q := by refine ints2 fun _ _ s hs => ?_; exact P.ge_int ⟨σ, hs, h⟩
theorem o_eqs {x y : Str} {Q : AV → Led → Prop} (h : Q (.bool (x == y)) σ) : Op2 c A (compareOp .Eq) er (.str x) (.str y) σ Q := by
  intro v w hv hw s hs; obtain ⟨_, rfl⟩ := er_str hv; obtain ⟨_, rfl⟩ := er_str hw; exact eq_str ⟨σ, hs, h⟩
noncomputable def AV.isNone : AV → Bool
  | .none => true
  | _ => false
theorem er_isNone (v : Value) : (er v).isNone = (v == Value.none) := by cases v <;> simp [er, AV.isNone]
theorem o_isNone {a : AV} {Q : AV → Led → Prop} (h : Q (.bool a.isNone) σ) : Op2 c A (compareOp .Is) er a .none σ Q := by
  intro v w hv hw s hs
  cases er_none hw
  subst hv
  rw [er_isNone] at h
  by_cases q : v = .none
  · subst q; exact is_none_none ⟨σ, hs, h⟩
  · exact is_none_ne q ⟨σ, hs, by (have e : (v == Value.none) = false := by simpa using q); rw [e] at h; exact h⟩
theorem o_isNotNone {a : AV} {Q : AV → Led → Prop} (h : Q (.bool (!a.isNone)) σ) : Op2 c A (compareOp .IsNot) er a .none σ Q := by
  intro v w hv hw s hs
  cases er_none hw
  subst hv
  rw [er_isNone] at h
  by_cases q : v = .none
  · subst q; exact isnot_none_none ⟨σ, hs, h⟩
  · exact isnot_none_ne q ⟨σ, hs, by (have e : (v == Value.none) = false := by simpa using q); rw [e] at h; exact h⟩
end
section
variable {c : Cx} {A : Around} {env : Env} {σ : Led} {pos : Pos}
noncomputable def Ch (c : Cx) (A : Around) (t : Sem Bool) (σ : Led) (P N : Led → Prop) : Prop := T c A t σ P N
theorem t_chain {l : Expr} {op₁ op₂ : CmpOp} {ops : List CmpOp} {r₁ r₂ : Expr} {rs : List Expr} {whole : Sem Value} {P N : Led → Prop}
    (h : E c A env l σ fun a σ1 => ∀ v, er v = a → T c A (testChain pos v (op₁ :: op₂ :: ops) (eval r₁ env :: eval r₂ env :: evalEach rs env)) σ1 P N)
    (hm : lastMarks (op₁ :: op₂ :: ops) (r₁ :: r₂ :: rs) = false := by with_unfolding_all rfl) : T c A (isTrue (.Compare l (op₁ :: op₂ :: ops) (r₁ :: r₂ :: rs) pos) env whole) σ P N := fun s hs =>
  isTrue_chain (wpAny_mono (h s hs) (fun v s1 ⟨σ1, h1, k1⟩ => k1 v rfl s1 h1) fun _ _ x => x.elim) hm
theorem t_link {a : AV} {op op' : CmpOp} {ops : List CmpOp} {r r' : Sem Value} {rs : List (Sem Value)} {P N : Led → Prop}
    (h : W c A r er σ fun b σ1 => Op2 c A (compareOp op) er a b σ1 fun v σ2 => Tv c A v σ2 (fun σ3 => ∀ w, er w = b → T c A (testChain pos w (op' :: ops) (r' :: rs)) σ3 P N) N) :
    ∀ v, er v = a → T c A (testChain pos v (op :: op' :: ops) (r :: r' :: rs)) σ P N := fun v hv s hs =>
  test_link (wpAny_mono (h s hs) (fun w s1 ⟨σ1, h1, k1⟩ => wpAny_mono (k1 v w hv rfl s1 h1) (fun x s2 ⟨σ2, h2, k2⟩ => wpAny_mono (k2 x rfl s2 h2) (fun b s3 ⟨σ3, h3, k3⟩ => by cases b with
    | true => exact k3.1 rfl w rfl s3 h3
    | false => exact ⟨σ3, h3, fun e => (nomatch e), fun _ => k3.2 rfl⟩) fun _ _ x => x.elim) fun _ _ x => x.elim) fun _ _ x => x.elim)
theorem t_last {a : AV} {op : CmpOp} {r : Sem Value} {P N : Led → Prop} (h : W c A r er σ fun b σ1 => Op2 c A (compareOp op) er a b σ1 fun v σ2 => Tv c A v σ2 P N) :
    ∀ v, er v = a → T c A (testChain pos v [op] [r]) σ P N := fun v hv s hs =>
  test_last (wpAny_mono (h s hs) (fun w s1 ⟨σ1, h1, k1⟩ => wpAny_mono (k1 v w hv rfl s1 h1) (fun x s2 ⟨σ2, h2, k2⟩ => k2 x rfl s2 h2) fun _ _ x => x.elim) fun _ _ x => x.elim)
end
section
variable {c : Cx} {A : Around} {σ : Led}
theorem tv_dec {p : Prop} [Decidable p] {P N : Led → Prop} (h1 : p → P σ) (h2 : ¬ p → N σ) : Tv c A (.bool (decide p)) σ P N := tv_bool (fun e => h1 (of_decide_eq_true e)) (fun e => h2 (of_decide_eq_false e))
theorem tv_true {b : Bool} {P N : Led → Prop} (hb : b = true) (h : P σ) : Tv c A (.bool b) σ P N := tv_bool (fun _ => h) (fun e => by rw [hb] at e; cases e)
theorem tv_false {b : Bool} {P N : Led → Prop} (hb : b = false) (h : N σ) : Tv c A (.bool b) σ P N := tv_bool (fun e => by rw [hb] at e; cases e) (fun _ => h)
theorem tv_yes {p : Prop} [Decidable p] {P N : Led → Prop} (hp : p) (h : P σ) : Tv c A (.bool (decide p)) σ P N := tv_true (decide_eq_true hp) h
theorem tv_no {p : Prop} [Decidable p] {P N : Led → Prop} (hp : ¬ p) (h : N σ) : Tv c A (.bool (decide p)) σ P N := tv_false (decide_eq_false hp) h
end
end
section
set_option maxRecDepth 20000
structure Gd (c : Cx) : Prop where
  low : (c.B.get? sysModules).isSome = true
  nolimit : c.B.NoLimit
section
variable {c : Cx} {A : Around} {env : Env} {σ σ' : Led} {pos : Pos} {a : Addr} {l : List AV}
theorem s_nil {Q : List AV → Led → Prop} (h : Q [] σ) : W c A (spliced (backTo pos (starEach [] env))) (List.map er) σ Q := fun s hs => spliced_none ⟨σ, hs, h⟩
theorem s_cons {e : Expr} {rest : List Expr} {Q : List AV → Led → Prop} (h : E c A env e σ fun v σ1 => W c A (spliced (backTo pos (starEach rest env))) (List.map er) σ1 fun vs σ2 => Q (v :: vs) σ2)
    (he : starEach (e :: rest) env = (false, eval e env) :: starEach rest env := by with_unfolding_all rfl) : W c A (spliced (backTo pos (starEach (e :: rest) env))) (List.map er) σ Q := fun s hs =>
  spliced_more (wpAny_mono (h s hs) (fun v s1 ⟨σ1, h1, k1⟩ => wpAny_mono (k1 s1 h1) (fun vs s2 ⟨σ2, h2, k2⟩ => ⟨σ2, h2, k2⟩) fun _ _ x => x.elim) fun _ _ x => x.elim) he
theorem e_tuple {es : List Expr} {k : Nat} {Q : AV → Led → Prop} (h : W c A (spliced (backTo pos (starEach es env))) (List.map er) σ fun vs σ1 => vs.length ≤ 1000000 ∧ ∀ a, Q (.ref a) ((a, .tup vs) :: σ1)) : E c A env (.Tuple es k pos) σ Q := fun s hs =>
  Tuple_ (wpAny_mono (h s hs) (fun vs s1 ⟨σ1, h1, k1⟩ => wpAny_newTuple ⟨_, h1.puth (h1.hp.new (mo := .tup (vs.map er)) (o := { cls := .type "tuple", data := .seq vs.toArray }) rfl ⟨vs.toArray, 0, rfl, rfl⟩), k1.2 _⟩ (by have := k1.1; rw [List.length_map] at this; unfold sizeLine; omega)) fun _ _ x => x.elim)
theorem e_list {es : List Expr} {Q : AV → Led → Prop} (h : W c A (spliced (backTo pos (starEach es env))) (List.map er) σ fun vs σ1 => vs.length ≤ 1000000 ∧ ∀ a, Q (.ref a) ((a, .lst vs) :: σ1)) : E c A env (.List es pos) σ Q := fun s hs =>
  List_ (wpAny_mono (h s hs) (fun vs s1 ⟨σ1, h1, k1⟩ => wpAny_newList ⟨_, h1.puth (h1.hp.new (mo := .lst (vs.map er)) (o := { cls := .type "list", data := .seq vs.toArray }) rfl ⟨vs.toArray, 0, rfl, rfl⟩), k1.2 _⟩ (by have := k1.1; rw [List.length_map] at this; unfold sizeLine; omega)) fun _ _ x => x.elim)
theorem e_dict0 {Q : AV → Led → Prop} (h : ∀ a, Q (.ref a) ((a, .dct []) :: σ)) : E c A env (.Dict [] [] pos) σ Q := fun s hs =>
  wpAny_Dict_empty ⟨_, hs.puth (hs.hp.new (mo := .dct []) (o := { cls := .type "dict", data := .dict #[] }) rfl ⟨[], ⟨#[], 0, ⟨rfl, rfl, rfl⟩, rfl, (fun e he => by simp at he), .nil, by simp⟩, rfl⟩), h _⟩
theorem lst_at {h : Heap} (H : Hp c σ h) (m : (a, .lst l) ∈ σ) : ∃ vs n, h.get? a = some (W.listOf vs n) ∧ vs.toList.map er = l := by
  obtain ⟨o, ho, vs, n, rfl, e⟩ := H.at m
  exact ⟨vs, n, ho, e⟩
theorem tup_at {h : Heap} (H : Hp c σ h) (m : (a, .tup l) ∈ σ) : ∃ vs n, h.get? a = some { cls := .type "tuple", data := .seq vs n } ∧ vs.toList.map er = l := by
  obtain ⟨o, ho, vs, n, rfl, e⟩ := H.at m
  exact ⟨vs, n, ho, e⟩
theorem lst_is {h : Heap} {vs : Array Value} {n : Nat} (ho : h.get? a = some (W.listOf vs n)) : h.IsList a vs := ⟨_, ho, rfl, n, rfl⟩
theorem tup_is {h : Heap} {vs : Array Value} {n : Nat} (ho : h.get? a = some { cls := .type "tuple", data := .seq vs n }) : IsTup h a vs := ⟨_, ho, rfl, n, rfl⟩
theorem arr_get {vs : Array Value} (e : vs.toList.map er = l) {i : Nat} {v : AV} (h : l[i]? = some v) : ∃ x, vs[i]? = some x ∧ er x = v := by
  subst e
  rw [List.getElem?_map, Option.map_eq_some_iff] at h
  obtain ⟨x, h1, h2⟩ := h
  exact ⟨x, by rw [← Array.getElem?_toList]; exact h1, h2⟩
theorem arr_size {vs : Array Value} (e : vs.toList.map er = l) : vs.size = l.length := by subst e; simp
theorem e_sub {value slice : Expr} {Q : AV → Led → Prop} (h : E c A env value σ fun o σ1 => E c A env slice σ1 fun i σ2 => Op2 c A (subscriptTail value slice) er o i σ2 Q) : E c A env (.Subscript value slice pos) σ Q := fun s hs =>
  Subscript_ (wpAny_mono (h s hs) (fun v1 s1 ⟨σ1, h1, k1⟩ => wpAny_mono (k1 s1 h1) (fun v2 s2 ⟨σ2, h2, k2⟩ => k2 v1 v2 rfl rfl s2 h2) fun _ _ x => x.elim) fun _ _ x => x.elim)
theorem u_list {value slice : Expr} {k : Int} {v : AV} {Q : AV → Led → Prop} (m : (a, .lst l) ∈ σ) (h0 : 0 ≤ k) (h1 : k < 2 ^ 63) (hv : l[k.toNat]? = some v) (h : Q v σ)
    (hs : ∀ b i t, subscripted slice false (.ref b) (.int i t) = operate [.ref b, .int i t] (getItem (.ref b) (.int i t)) := by intros; with_unfolding_all rfl) : Op2 c A (subscriptTail value slice) er (.ref a) (.int k) σ Q := by
  intro v1 v2 e1 e2 s st
  cases er_ref e1
  obtain ⟨t, rfl⟩ := er_int e2
  obtain ⟨vs, n, ho, e⟩ := lst_at st.hp m
  obtain ⟨x, hx, rfl⟩ := arr_get e hv
  exact tail_any (lst_is ho).typeIs slot_list_getitem.lookup (wpAny_getItem_list (lst_is ho) h0 h1 hx ⟨σ, st, h⟩) (hs _ _ _)
theorem u_last {value slice : Expr} {v : AV} {Q : AV → Led → Prop} (m : (a, .lst (l ++ [v])) ∈ σ) (h : Q v σ)
    (hs : ∀ b i t, subscripted slice false (.ref b) (.int i t) = operate [.ref b, .int i t] (getItem (.ref b) (.int i t)) := by intros; with_unfolding_all rfl) : Op2 c A (subscriptTail value slice) er (.ref a) (.int (-1)) σ Q := by
  intro v1 v2 e1 e2 s st
  cases er_ref e1
  obtain ⟨t, rfl⟩ := er_int e2
  obtain ⟨vs, n, ho, e⟩ := lst_at st.hp m
  have hz := arr_size e
  rw [List.length_append, List.length_singleton] at hz
  obtain ⟨x, hx, rfl⟩ := arr_get e (i := l.length) (v := v) (by simp)
  exact tail_any (lst_is ho).typeIs slot_list_getitem.lookup (wpAny_getItem_list_neg (lst_is ho) (by decide) (by omega) (by decide) (by rw [show ((-1 : Int) + (vs.size : Int)).toNat = l.length by omega]; exact hx) ⟨σ, st, h⟩) (hs _ _ _)
theorem u_tup {value slice : Expr} {k : Int} {v : AV} {Q : AV → Led → Prop} (m : (a, .tup l) ∈ σ) (h0 : 0 ≤ k) (h1 : k < 2 ^ 63) (hv : l[k.toNat]? = some v) (h : Q v σ)
    (hs : ∀ b i t, subscripted slice false (.ref b) (.int i t) = operate [.ref b, .int i t] (getItem (.ref b) (.int i t)) := by intros; with_unfolding_all rfl) : Op2 c A (subscriptTail value slice) er (.ref a) (.int k) σ Q := by
  intro v1 v2 e1 e2 s st
  cases er_ref e1
  obtain ⟨t, rfl⟩ := er_int e2
  obtain ⟨vs, n, ho, e⟩ := tup_at st.hp m
  obtain ⟨x, hx, rfl⟩ := arr_get e hv
  have hz := arr_size e
  have hk : k.toNat < l.length := (List.getElem?_eq_some_iff.mp hv).1
  refine item_tupleT (l := vs.toList) (j := k.toNat) (by rw [Array.toArray_toList]; exact tup_is ho) (by omega) h1 ?_ (by rw [Array.getElem?_toList]; exact hx) ⟨σ, st, h⟩ (hs _ _ _)
  have hl : vs.toList.length = l.length := by simpa using hz
  rw [hl]
  have e1 : (0 ≤ k && k < (l.length : Int)) = true := by simp; omega
  have e2 : ¬ k < 0 := by omega
  simp only [seqIndex?, if_neg e2, e1, if_true]
end
end
section
set_option maxRecDepth 20000
section
variable {c : Cx} {A : Around} {env : Env} {σ σ' : Led} {pos : Pos} {a : Addr} {l : List AV}
noncomputable def Kp (c : Cx) (f : AV) : Prop := ∀ f0, er f0 = f → ∀ h : Heap, (∀ b o, c.B.get? b = some o → h.get? b = some o) → ∃ k, (k = Keeper.frame ∨ k = Keeper.machine ∨ k = Keeper.boundFrame) ∧ Looks c.M h (keeperOf f0) k
noncomputable def Call (c : Cx) (A : Around) (f : AV) (vs : List AV) (σ : Led) (Q : AV → Led → Prop) : Prop := ∀ f0 vs0, er f0 = f → vs0.map er = vs → W c A (call f0 vs0) er σ Q
theorem Call.mono {f : AV} {vs : List AV} {Q Q' : AV → Led → Prop} (h : Call c A f vs σ Q) (k : ∀ x σ', Q x σ' → Q' x σ') : Call c A f vs σ Q' := fun f0 vs0 e1 e2 => (h f0 vs0 e1 e2).mono k
theorem kp_builtin (id : String) : Kp c (.oth (.builtin id)) := fun f0 e h _ => by
  have : f0 = .builtin id := er_oth e
  subst this
  exact ⟨.machine, .inr (.inl rfl), Looks.now⟩
theorem kp_type (id : String) : Kp c (.oth (.type id)) := fun f0 e h _ => by
  have : f0 = .type id := er_oth e
  subst this
  exact ⟨.machine, .inr (.inl rfl), Looks.now⟩
theorem kp_fn {f : Addr} {o : Obj} {fd : FuncData} (ho : c.B.get? f = some o) (hd : o.data = .func fd) : Kp c (.ref f) := fun f0 e h k => by
  cases er_ref e
  refine ⟨.frame, .inl rfl, (Looks.ld (part := none) (k _ _ ho)).andThen ?_⟩
  rw [hd]; exact .now
theorem callWith_nil {f0 : Value} {first : List Value} {Q : AV → Led → Prop} (K : Kp c (er f0)) (h : Call c A (er f0) (first.map er) σ Q) : W c A (callWith pos f0 first (backTo pos (starEach [] env)) []) er σ Q := fun s hs => by
  refine callWith_of (P := fun h => ∀ b o, c.B.get? b = some o → h.get? b = some o) rfl (fun hh hk => K f0 rfl hh hk) ?_
  exact evalArgs_nil3 ⟨hs.hp.keep, h f0 _ rfl (by simp) s hs⟩
theorem callWith_cons {f0 : Value} {first : List Value} {e : Expr} {rest : List Expr} {Q : AV → Led → Prop} (K : Kp c (er f0))
    (h : W c A (spliced (backTo pos (starEach (e :: rest) env))) (List.map er) σ fun vs σ1 => Call c A (er f0) (first.map er ++ vs) σ1 Q)
    (he : starEach (e :: rest) env = (false, eval e env) :: starEach rest env) (hplain : (backTo pos (starEach rest env)).any (·.1) = false) : W c A (callWith pos f0 first (backTo pos (starEach (e :: rest) env)) []) er σ Q := fun s hs => by
  rw [he] at h ⊢
  refine callWith_of (P := fun h => ∀ b o, c.B.get? b = some o → h.get? b = some o) (by show ((false || (backTo pos (starEach rest env)).any (·.1)) || false) = false; rw [hplain]; rfl) (fun hh hk => K f0 rfl hh hk) ?_
  exact evalArgs_plain (wpAny_mono (h s hs) (fun vs s1 ⟨σ1, h1, k1⟩ => ⟨h1.hp.keep, k1 f0 (first ++ vs) rfl (by rw [List.map_append]) s1 h1⟩) fun _ _ x => x.elim)
theorem e_call0 {func : Expr} {Q : AV → Led → Prop} (h : E c A env func σ fun f σ1 => Kp c f ∧ Call c A f [] σ1 Q)
    (he : eval (.Call func [] [] pos) env = (do let f ← eval func env; callWith pos f [] (backTo pos (starEach [] env)) (backToKw pos (keywordEach [] env))) := by with_unfolding_all rfl) : E c A env (.Call func [] [] pos) σ Q := fun s hs =>
  Call_ (wpAny_mono (h s hs) (fun f0 s1 ⟨σ1, h1, k1⟩ => callWith_nil (first := []) k1.1 k1.2 s1 h1) fun _ _ x => x.elim) he
theorem e_call {func e : Expr} {rest : List Expr} {Q : AV → Led → Prop} (h : E c A env func σ fun f σ1 => Kp c f ∧ W c A (spliced (backTo pos (starEach (e :: rest) env))) (List.map er) σ1 fun vs σ2 => Call c A f vs σ2 Q)
    (he : eval (.Call func (e :: rest) [] pos) env = (do let f ← eval func env; callWith pos f [] (backTo pos (starEach (e :: rest) env)) (backToKw pos (keywordEach [] env))) := by with_unfolding_all rfl)
    (h1 : starEach (e :: rest) env = (false, eval e env) :: starEach rest env := by with_unfolding_all rfl) (h2 : (backTo pos (starEach rest env)).any (·.1) = false := by with_unfolding_all rfl) : E c A env (.Call func (e :: rest) [] pos) σ Q := fun s hs =>
  Call_ (wpAny_mono (h s hs) (fun f0 s1 ⟨σ1, h3, k1⟩ => callWith_cons (first := []) k1.1 (by simpa using k1.2) h1 h2 s1 h3) fun _ _ x => x.elim) he
noncomputable def Gm (c : Cx) (A : Around) (o : AV) (name : Str) (σ : Led) (Q : AV → List AV → Led → Prop) : Prop := ∀ v pl, er v = o → W c A (getMethod v name pl) (fun p => (er p.1, p.2.map er)) σ fun p σ1 => Q p.1 p.2 σ1
theorem e_meth0 {o : Expr} {name : Str} {apos : Pos} {pl : Sem Bool} {Q : AV → Led → Prop} (h : E c A env o σ fun ov σ1 => Gm c A ov name σ1 fun f first σ2 => Kp c f ∧ Call c A f first σ2 Q)
    (he : eval (.Call (.Attribute o name apos) [] [] pos) env = (do
          let ov ← eval o env
          standAt apos.atName
          let __x ← holding [ov] (getMethod ov name pl)
          match __x with
            | (f, first) => callWith pos f first (backTo pos (starEach [] env)) []) := by with_unfolding_all rfl) : E c A env (.Call (.Attribute o name apos) [] [] pos) σ Q := fun s hs =>
  MethodCall_ (pl := pl) (wpAny_mono (h s hs) (fun ov s1 ⟨σ1, h1, k1⟩ => wpAny_mono (k1 ov pl rfl s1 h1) (fun p s2 ⟨σ2, h2, k2⟩ => callWith_nil k2.1 k2.2 s2 h2) fun _ _ x => x.elim) fun _ _ x => x.elim) he
theorem e_meth {o e : Expr} {rest : List Expr} {name : Str} {apos : Pos} {pl : Sem Bool} {Q : AV → Led → Prop}
    (h : E c A env o σ fun ov σ1 => Gm c A ov name σ1 fun f first σ2 => Kp c f ∧ W c A (spliced (backTo pos (starEach (e :: rest) env))) (List.map er) σ2 fun vs σ3 => Call c A f (first ++ vs) σ3 Q)
    (he : eval (.Call (.Attribute o name apos) (e :: rest) [] pos) env = (do
          let ov ← eval o env
          standAt apos.atName
          let __x ← holding [ov] (getMethod ov name pl)
          match __x with
            | (f, first) => callWith pos f first (backTo pos (starEach (e :: rest) env)) []) := by with_unfolding_all rfl)
    (h1 : starEach (e :: rest) env = (false, eval e env) :: starEach rest env := by with_unfolding_all rfl) (h2 : (backTo pos (starEach rest env)).any (·.1) = false := by with_unfolding_all rfl) : E c A env (.Call (.Attribute o name apos) (e :: rest) [] pos) σ Q := fun s hs =>
  MethodCall_ (pl := pl) (wpAny_mono (h s hs) (fun ov s1 ⟨σ1, h3, k1⟩ => wpAny_mono (k1 ov pl rfl s1 h3) (fun p s2 ⟨σ2, h4, k2⟩ => callWith_cons k2.1 k2.2 h1 h2 s2 h4) fun _ _ x => x.elim) fun _ _ x => x.elim) he
noncomputable def fdBody : Stmt → List Stmt
  | .FunctionDef (body := b) .. => b
  | _ => []
noncomputable def fdParams : Stmt → Arguments
  | .FunctionDef (args := p) .. => p
  | _ => { posonlyargs := [], args := [], vararg := none, kwonlyargs := [], kw_defaults := [], kwarg := none, defaults := [] }
noncomputable def fdScope : Stmt → Scope
  | .FunctionDef (scope := s) .. => s
  | _ => { kind := .module, names := [], isGenerator := false, isCoroutine := false, more := [] }
noncomputable def FnAt (c : Cx) (f : Addr) (st : Stmt) : Prop := ∃ name qual doc pm an cdv ct oc od osl,
  c.B.get? f = some ⟨oc, od, .func (fnOf name qual (fdParams st) (fdBody st) (fdScope st) .none .none doc pm an cdv ct), osl⟩ ∧ c.B.CodeRec cdv qual
structure FnOk (st : Stmt) (names : List (Str × NameKind)) (np : Nat) : Prop where
  nms : (fdScope st).names = names
  kind : (fdScope st).kind = .function
  co : (fdScope st).isCoroutine = false
  gen : (fdScope st).isGenerator = false
  cell : ∀ x ∈ names, x.2 ≠ .cell
  nd : (names.map (·.1)).Nodup
  dbg : ∀ p ∈ names, (p.1 == ("__debug__" : Str)) = false
  par : ∀ (name qual : Str) (doc pm : Value) (an : Option Addr) (cdv ct : Value) (vs : List Value), vs.length = np → bindArgs (fnOf name qual (fdParams st) (fdBody st) (fdScope st) .none .none doc pm an cdv ct) ⟨vs, []⟩ = pure (((names.take np).map (·.1)).zip vs)
  loc : ∀ x ∈ names.take np, x.2 = .local
  le : np ≤ names.length
theorem kp_def {f : Addr} {st : Stmt} (F : FnAt c f st) : Kp c (.ref f) := by
  obtain ⟨name, qual, doc, pm, an, cdv, ct, oc, od, osl, ho, _⟩ := F
  exact kp_fn ho rfl
theorem zip_lookup : ∀ {ns : List Str} {vs : List Value} {i : Nat} {x : Str} {v : Value}, ns.Nodup → ns[i]? = some x → vs[i]? = some v → (ns.zip vs).reverse.lookup x = some v := by
  intro ns vs i x v nd hx hv
  have key : ∀ (l : List (Str × Value)), (l.map (·.1)).Nodup → (x, v) ∈ l → l.lookup x = some v := by
    intro l
    induction l with
    | nil => intro _ h; cases h
    | cons p l ih =>
      intro hn hm
      rw [List.map_cons, List.nodup_cons] at hn
      rcases List.mem_cons.mp hm with rfl | hm
      · simp [List.lookup_cons]
      · have : x ≠ p.1 := fun e => hn.1 (e ▸ List.mem_map_of_mem (f := (·.1)) hm)
        have e : (x == p.1) = false := by simp [this]
        rw [List.lookup_cons, e]
        exact ih hn.2 hm
  have hz : ((ns.zip vs).map (·.1)).Nodup := by
    have : ∀ (ns : List Str) (vs : List Value), ns.Nodup → ((ns.zip vs).map (·.1)).Nodup := by
      intro ns
      induction ns with
      | nil => intro vs _; simp
      | cons n ns ih =>
        intro vs hn
        cases vs with
        | nil => simp
        | cons v vs =>
          rw [List.nodup_cons] at hn
          rw [List.zip_cons_cons, List.map_cons, List.nodup_cons]
          refine ⟨fun q => ?_, ih vs hn.2⟩
          obtain ⟨p, hp, e⟩ := List.mem_map.mp q
          have e' : p.1 = n := e
          exact hn.1 (e' ▸ (List.of_mem_zip (a := p.1) (b := p.2) hp).1)
    exact this ns vs nd
  refine key _ ?_ ?_
  · rw [List.map_reverse]
    exact (List.reverse_perm _).nodup_iff.mpr hz
  · rw [List.mem_reverse]
    have : (ns.zip vs)[i]? = some (x, v) := by
      rw [List.getElem?_zip_eq_some]; exact ⟨hx, hv⟩
    exact List.mem_of_getElem? this
noncomputable def noneV : Nat → List (Option AV)
  | 0 => []
  | k + 1 => none :: noneV k
noncomputable def initV : List AV → Nat → List (Option AV)
  | [], k => noneV k
  | v :: vs, k => some v :: initV vs k
theorem noneV_eq : ∀ k, noneV k = List.replicate k none
  | 0 => rfl
  | k + 1 => by rw [noneV, noneV_eq k]; rfl
theorem initV_eq (k : Nat) : ∀ vs, initV vs k = vs.map some ++ List.replicate k none
  | [] => noneV_eq k
  | v :: vs => by rw [initV, initV_eq k vs]; rfl
noncomputable def CallC (c : Cx) (A : Around) (f : AV) (vs : List AV) (σ : Led) (Q : AV → Led → Prop) : Prop := ∀ f0 vs0, er f0 = f → vs0.map er = vs → ∀ s, St c σ s → codeAny c.M A (.call f0 ⟨vs0, []⟩) (fun r s' => match r with | .ok (.ret v) => ∃ σ', St c σ' s' ∧ Q (er v) σ' | .ok _ => False | .error _ => False) s
theorem CallC.call {f : AV} {vs : List AV} {Q : AV → Led → Prop} (h : CallC c A f vs σ Q) : Call c A f vs σ Q := fun f0 vs0 e1 e2 s hs => wpAny_call (h f0 vs0 e1 e2 s hs)
theorem callC_fn {f : Addr} {st : Stmt} {names : List (Str × NameKind)} {np k : Nat} {vs : List AV} {Q : AV → Led → Prop} (G : Gd c) (F : FnAt c f st) (O : FnOk st names np) (hl : vs.length = np) (room : A.depth < recursionLimit)
    (h : ∀ (L : Addr) (env : Env), FrOk env L names → X c (A.deeper env) (execs (fdBody st) env) ((L, .ns names (initV vs k)) :: σ) (fun σ' => ∃ σ'', Sb σ'' σ' ∧ Q .none σ'') (fun _ => False) (fun _ => False) (fun v σ' => ∃ σ'', Sb σ'' σ' ∧ Q v σ'')) : CallC c A (.ref f) vs σ Q := by
  simp only [initV_eq] at h
  intro f0 vs0 e1 e2 s hs
  cases er_ref e1
  obtain ⟨name, qual, doc, pm, an, cdv, ct, oc, od, osl, ho, hcd⟩ := F
  have hl0 : vs0.length = np := by rw [← hl, ← e2, List.length_map]
  have hz : (names.take np).length = np := by rw [List.length_take]; exact Nat.min_eq_left O.le
  refine (codeAny_call_def (fd := fnOf name qual (fdParams st) (fdBody st) (fdScope st) .none .none doc pm an cdv ct) (binds := ((names.take np).map (·.1)).zip vs0) room (hs.hp.keep _ _ ho) rfl (G.nolimit.keeps hs.hp.keep) (hcd.keeps hs.hp.keep) rfl
    (BindsTo.of_eq (O.par _ _ _ _ _ _ _ _ hl0)) (by rw [show (fnOf name qual (fdParams st) (fdBody st) (fdScope st) .none .none doc pm an cdv ct).scope.names = names from O.nms]; exact O.cell) ?_ (fun h₀ hns hk => ?_) O.co O.gen O.kind)
  · intro x hx
    show (fdScope st).names.lookup x.1 = some .local
    rw [O.nms]
    have hm := (List.of_mem_zip hx).1
    obtain ⟨p, hp, e⟩ := List.mem_map.mp hm
    have := O.loc p hp
    refine lookup_of_mem O.nd ?_
    rw [← e, ← this]
    exact List.mem_of_mem_take hp
  · obtain ⟨o, es, ep, hoL, hd, hsk, hf⟩ := hns
    have hlt : s.heap.objs.size < h₀.objs.size := Heap.lt_size hoL
    have hH : Hp c ((s.heap.objs.size, .ns names (vs.map some ++ List.replicate k none)) :: σ) h₀ := by
      refine ⟨fun b o e => hk b o (hs.hp.keep b o e), Nat.le_trans hs.hp.sz (Nat.le_of_lt hlt), fun p hp => ?_, ?_⟩
      · rcases List.mem_cons.mp hp with rfl | hp
        · refine ⟨⟨o, hoL, es, ep, hd, hsk, fun i x kd v hi hv => ?_⟩, hs.hp.sz⟩
          rw [hf]
          have hiv : i < vs.length := by
            refine Nat.lt_of_not_le fun q => ?_
            rw [List.getElem?_append_right (by simpa using q), List.getElem?_replicate] at hv
            split at hv <;> simp at hv
          rw [List.getElem?_append_left (by simpa using hiv), List.getElem?_map, Option.map_eq_some_iff] at hv
          obtain ⟨v', hv', e⟩ := hv
          cases e
          rw [← e2, List.getElem?_map, Option.map_eq_some_iff] at hv'
          obtain ⟨v0, hv0, rfl⟩ := hv'
          have hx : ((names.take np).map (·.1))[i]? = some x := by
            rw [List.getElem?_map, List.getElem?_take_of_lt (by omega), hi]; rfl
          have nd' : ((names.take np).map (·.1)).Nodup := by
            have := O.nd.sublist ((List.take_sublist np names).map (·.1))
            exact this
          show Option.map er ((((names.take np).map (·.1)).zip vs0).reverse.lookup x) = _
          rw [zip_lookup nd' hx hv0]
          rfl
        · obtain ⟨⟨o', e, q⟩, l⟩ := hs.hp.has p hp
          exact ⟨⟨o', hk _ _ e, q⟩, l⟩
      · rw [List.map_cons, List.nodup_cons]
        refine ⟨fun q => ?_, hs.hp.nd⟩
        obtain ⟨p, hp, e⟩ := List.mem_map.mp q
        obtain ⟨⟨o', e', _⟩, _⟩ := hs.hp.has p hp
        have := Heap.lt_size e'
        rw [e] at this
        exact Nat.lt_irrefl _ this
    refine wpAny_mono (h s.heap.objs.size _ ⟨O.kind, O.nms, O.nd, O.dbg, rfl, rfl, rfl⟩ _ ⟨hH, hs.gens, hs.os⟩) (fun f s' hq => ?_) fun _ _ x => x.elim
    obtain ⟨σ', h1, k1⟩ := hq
    have fin : ∀ v : Value, (∃ σ'', Sb σ'' σ' ∧ Q (er v) σ'') → ∃ σ', St c σ' s' ∧ Q (er v) σ' := by
      rintro v ⟨σ'', hsub, hq⟩
      exact ⟨σ'', h1.sb hsub, hq⟩
    cases f with
    | next => exact fin .none k1
    | brk => exact k1.elim
    | cont => exact k1.elim
    | ret v => exact fin v k1
theorem call_fn {f : Addr} {st : Stmt} {names : List (Str × NameKind)} {np k : Nat} {vs : List AV} {Q : AV → Led → Prop} (G : Gd c) (F : FnAt c f st) (O : FnOk st names np) (hl : vs.length = np) (room : A.depth < recursionLimit)
    (h : ∀ (L : Addr) (env : Env), FrOk env L names → X c (A.deeper env) (execs (fdBody st) env) ((L, .ns names (initV vs k)) :: σ) (fun σ' => ∃ σ'', Sb σ'' σ' ∧ Q .none σ'') (fun _ => False) (fun _ => False) (fun v σ' => ∃ σ'', Sb σ'' σ' ∧ Q v σ'')) : Call c A (.ref f) vs σ Q := (callC_fn G F O hl room h).call
end
end
section
set_option maxRecDepth 20000
section
variable {c : Cx} {A : Around} {env : Env} {σ σ' : Led} {pos : Pos} {a : Addr} {l : List AV}
theorem Hp.ext {h h' : Heap} {it : Addr} {τ : Led} (H : Hp c σ h) (hs : Heap.ExtBut it h h') (hm : it ∈ σ.map (·.1)) (hτ : ∀ p ∈ τ, p ∈ σ ∧ p.1 ≠ it) (nd : (τ.map (·.1)).Nodup) (hne : τ ≠ []) : Hp c τ h' where
  keep b o e := by
    refine hs b o (fun q => ?_) (H.keep b o e)
    obtain ⟨p, hp, ep⟩ := List.mem_map.mp hm
    have := (H.has p hp).2
    have hb := Heap.lt_size e
    rw [ep, ← q] at this
    exact absurd hb (Nat.not_lt.mpr this)
  sz := by
    obtain ⟨q, hq⟩ := List.exists_mem_of_ne_nil _ hne
    obtain ⟨⟨o, e, k⟩, l⟩ := H.has q (hτ q hq).1
    exact Nat.le_trans l (Nat.le_of_lt (Heap.lt_size (hs _ _ (hτ q hq).2 e)))
  has p hp := by
    obtain ⟨⟨o, e, k⟩, l⟩ := H.has p (hτ p hp).1
    exact ⟨⟨o, hs _ _ (hτ p hp).2 e, k⟩, l⟩
  nd := nd
theorem for_core {P : Type} {it : Addr} {J : Nat → MO} {n : Nat} {val : Nat → AV} {F : P → Led → Led} {inv : Nat → P → Prop} {ρ : Led} {target : Expr} {body : List Stmt} {src : Led → Prop}
    {N : Led → Prop} {R : AV → Led → Prop}
    (item : ∀ (i : Nat) (s : Shared) (σ : Led), i < n → St c σ s → (it, J i) ∈ σ → src σ → ∀ Q : Option Value → Shared → Prop, (∀ v0 h' tk, er v0 = val i → Heap.SameBut it s.heap h' → (∃ o, h'.get? it = some o ∧ (J (i + 1)).Ok c o) → Q (some v0) { s with heap := h', toks := tk }) → wpAny c.M A (pyNext (.ref it)) Q (fun _ _ => False) s)
    (done : ∀ (s : Shared) (σ : Led), St c σ s → (it, J n) ∈ σ → src σ → ∀ Q : Option Value → Shared → Prop, (∀ h', Heap.ExtBut it s.heap h' → Q none { s with heap := h' }) → wpAny c.M A (pyNext (.ref it)) Q (fun _ _ => False) s)
    (hF : ∀ p ρ, F p ρ = F p [] ++ ρ) (hsrc : ∀ p ρ', src (F p ρ) → src (F p (ρ' ++ ρ)))
    (hs : ∀ i p, inv i p → src (F p ρ))
    (step : ∀ i p ρ', i < n → inv i p → (∀ q ∈ ρ, q ∈ ρ') → Sb ρ ρ' → Op1 c A (assign target env) id (val i) (F p ρ') fun _ σ1 => X c A (execs body env) σ1 (fun σ2 => ∃ p', inv (i + 1) p' ∧ Sb (F p' ρ') σ2) (fun _ => False) (fun σ2 => ∃ p', inv (i + 1) p' ∧ Sb (F p' ρ') σ2) R)
    (fin : ∀ p, inv n p → N (F p ρ))
    (hne : ∀ p, F p ρ ≠ []) (ht : ∀ (i : Nat) (v0 : Value) (s : Shared) (Q : Unit → Shared → Prop), (∃ o, s.heap.get? it = some o ∧ (J (i + 1)).Ok c o) → Q () s → wpAny c.M A (letOwnedTupleGo target (.ref it) v0) Q (fun _ _ => False) s) (p0 : P) (h0 : inv 0 p0) {s : Shared} (hst : St c (F p0 ((it, J 0) :: ρ)) s) :
    codeAny c.M A (.forLoop target (.ref it) body [] env) (fun r s' => match r with | .ok f => ∃ σ', St c σ' s' ∧ (match erF f with | .next => N σ' | .brk => False | .cont => False | .ret v => R v σ') | .error e => False) s := by
  refine codeAny_forLoop_any (fun k s => ∃ i p, k = n - i ∧ i ≤ n ∧ inv i p ∧ St c (F p ((it, J i) :: ρ)) s) ?_ n ⟨0, p0, rfl, Nat.zero_le _, h0, hst⟩
  rintro k s ⟨i, p, rfl, hi, hinv, hS⟩
  have hmem : (it, J i) ∈ F p ((it, J i) :: ρ) := by rw [hF]; simp
  have hsr : src (F p ((it, J i) :: ρ)) := hsrc p [(it, J i)] (hs i p hinv)
  rcases Nat.lt_or_eq_of_le hi with hlt | rfl
  · refine wpAny_mono (item i s _ hlt hS hmem hsr _ fun v0 h' tk hv hsb ⟨o, ho, hok⟩ => ?_) (fun _ _ x => x) (fun _ _ x => x.elim)
    have U : Up it (J i) (J (i + 1)) (F p ((it, J i) :: ρ)) (F p ((it, J (i + 1)) :: ρ)) := by
      rw [hF, hF p ((it, J (i + 1)) :: ρ)]
      generalize F p [] = pre
      induction pre with
      | nil => exact .here
      | cons q pre ih => exact .there ih
    have hS' : St c (F p ((it, J (i + 1)) :: ρ)) { s with heap := h', toks := tk } := hS.put (hS.hp.change U hsb ho hok)
    refine wpAny_mono (ht i v0 { s with heap := h', toks := tk } (fun _ s' => s' = { s with heap := h', toks := tk }) ⟨o, ho, hok⟩ rfl) (fun _ s1' hs1' => ?_) (fun _ _ x => x.elim)
    subst hs1'
    refine wpAny_mono (step i p ((it, J (i + 1)) :: ρ) hlt hinv (fun q hq => .tail _ hq) (.skip .same) v0 hv _ hS') (fun _ s2 ⟨σ1, h1, k1⟩ => ?_) (fun _ _ x => x.elim)
    refine wpAny_mono (k1 s2 h1) (fun f s3 ⟨σ2, h2, k2⟩ => ?_) (fun _ _ x => x.elim)
    have again : (∃ p', inv (i + 1) p' ∧ Sb (F p' ((it, J (i + 1)) :: ρ)) σ2) → ∃ m, m < n - i ∧ ∃ i p, m = n - i ∧ i ≤ n ∧ inv i p ∧ St c (F p ((it, J i) :: ρ)) s3 := by
      rintro ⟨p', hp', hsub⟩
      exact ⟨n - (i + 1), by omega, i + 1, p', rfl, hlt, hp', h2.sb hsub⟩
    cases f with
    | next => exact again k2
    | cont => exact again k2
    | brk => exact k2.elim
    | ret v => exact ⟨σ2, h2, k2⟩
  · refine wpAny_mono (done s _ hS hmem hsr _ fun h' hx => ?_) (fun _ _ x => x) (fun _ _ x => x.elim)
    refine wpAny_execs_nil ⟨F p ρ, hS.puth (hS.hp.ext hx (List.mem_map_of_mem (f := (·.1)) hmem) (fun q hq => ?_) ?_ ?_), fin p hinv⟩
    · have nd := hS.hp.nd
      rw [hF] at nd hq ⊢
      rw [List.map_append, List.map_cons] at nd
      have hne : q.1 ≠ it := by
        intro e
        rcases List.mem_append.mp hq with hq | hq
        · exact (List.nodup_append.mp nd).2.2 q.1 (List.mem_map_of_mem (f := (·.1)) hq) it (.head _) e
        · have := (List.nodup_append.mp nd).2.1
          rw [List.nodup_cons] at this
          exact this.1 (e ▸ List.mem_map_of_mem (f := (·.1)) hq)
      refine ⟨?_, hne⟩
      rcases List.mem_append.mp hq with hq | hq
      · exact List.mem_append_left _ hq
      · exact List.mem_append_right _ (.tail _ hq)
    · have nd := hS.hp.nd
      rw [hF] at nd ⊢
      refine nd.sublist (List.Sublist.map _ ?_)
      exact List.Sublist.append (List.Sublist.refl _) (List.sublist_cons_self ..)
    · exact hne p
end
end
section
set_option maxRecDepth 20000
section
variable {c : Cx} {A : Around} {env : Env} {σ σ' : Led} {pos : Pos} {a : Addr} {l : List AV}
noncomputable def Fo (c : Cx) (A : Around) (env : Env) (target : Expr) (body : List Stmt) (v : AV) (σ : Led) (N : Led → Prop) (R : AV → Led → Prop) : Prop :=
  ∀ v0, er v0 = v → ∀ s, St c σ s → wpAny c.M A (pyIter v0) (fun it s₂ => codeAny c.M A (.forLoop target it body [] env) (fun r s' => match r with | .ok f => ∃ σ', St c σ' s' ∧ (match erF f with | .next => N σ' | .brk => False | .cont => False | .ret v => R v σ') | .error e => False) s₂) (fun _ _ => False) s
theorem x_for {target iter : Expr} {body : List Stmt} {N B C : Led → Prop} {R : AV → Led → Prop} (h : E c A env iter σ fun v σ1 => Fo c A env target body v σ1 N R)
    (hs : ∀ x, foldedSetIterable iter env x = pure x := by intro _; with_unfolding_all rfl) : X c A (exec (.For target iter body [] pos) env) σ N B C R := fun s hst =>
  wpAny_For (wpAny_mono (h s hst) (fun v s1 ⟨σ1, h1, k1⟩ => wpAny_mono (k1 v rfl s1 h1) (fun it s2 h2 => codeAny_mono h2 fun r s3 q => by
    cases r with
    | error e => exact q.elim
    | ok f =>
      obtain ⟨σ', h3, k3⟩ := q
      refine ⟨σ', h3, ?_⟩
      cases f with
      | next => exact k3
      | brk => exact k3.elim
      | cont => exact k3.elim
      | ret v => exact k3) fun _ _ x => x) fun _ _ x => x.elim) hs
theorem mem_tail {P : Type} {F : P → Led → Led} (hF : ∀ p ρ, F p ρ = F p [] ++ ρ) {p : P} {ρ : Led} (ρ' : Led) {q : Addr × MO} (h : q ∈ F p ρ) : q ∈ F p (ρ' ++ ρ) := by
  rw [hF] at h ⊢
  rcases List.mem_append.mp h with h | h
  · exact List.mem_append_left _ h
  · exact List.mem_append_right _ (List.mem_append_right _ h)
theorem perm_in {P : Type} {F : P → Led → Led} (hF : ∀ p ρ, F p ρ = F p [] ++ ρ) (p : P) (ρ : Led) (q : Addr × MO) : (q :: F p ρ).Perm (F p (q :: ρ)) := by
  rw [hF, hF p (q :: ρ)]
  exact (List.perm_middle).symm
theorem St.perm {s : Shared} {τ : Led} (S : St c σ s) (h : σ.Perm τ) : St c τ s := ⟨⟨S.hp.keep, S.hp.sz, fun p hp => S.hp.has p (h.mem_iff.mpr hp), ((h.map (·.1)).nodup_iff).mp S.hp.nd⟩, S.gens, S.os⟩
theorem letGo_it {target : Expr} {I : Addr} {v : Value} {Q : Unit → Shared → Prop} {s : Shared} {o : Obj} {t : Addr} {i : Nat} (hc : o.cls = .type "list_iterator" ∨ o.cls = .type "tuple_iterator") (hd : o.data = .fields #[.ref t, .int i 0]) (ho : s.heap.get? I = some o) (h : Q () s) :
    wpAny c.M A (letOwnedTupleGo target (.ref I) v) Q (fun _ _ => False) s := by
  unfold letOwnedTupleGo
  cases target <;> first
    | exact wpAny_pure h
    | (cases v <;> first
        | exact wpAny_pure h
        | (refine wpAny_bind (wpAny_load ho ?_)
           rcases hc with hc | hc <;> (rw [hc, hd]; exact wpAny_pure h)))
theorem fo_list {P : Type} (F : P → Led → Led) (inv : Nat → P → Prop) (ρ : Led) (p0 : P) {target : Expr} {body : List Stmt} {N : Led → Prop} {R : AV → Led → Prop} (hh : A.handled = none)
    (hF : ∀ p ρ, F p ρ = F p [] ++ ρ) (hsb : Sb (F p0 ρ) σ) (hm : ∀ p, (a, .lst l) ∈ F p ρ) (h0 : inv 0 p0)
    (step : ∀ i v p ρ', l[i]? = some v → inv i p → (∀ q ∈ ρ, q ∈ ρ') → Sb ρ ρ' → Op1 c A (assign target env) id v (F p ρ') fun _ σ1 => X c A (execs body env) σ1 (fun σ2 => ∃ p', inv (i + 1) p' ∧ Sb (F p' ρ') σ2) (fun _ => False) (fun σ2 => ∃ p', inv (i + 1) p' ∧ Sb (F p' ρ') σ2) R)
    (fin : ∀ p, inv l.length p → N (F p ρ)) (hne : ∀ p, F p ρ ≠ [] := by intro _; exact List.cons_ne_nil _ _) : Fo c A env target body (.ref a) σ N R := by
  intro v0 e s hs
  cases er_ref e
  have hS := hs.sb hsb
  obtain ⟨vs, n, ho, ev⟩ := lst_at hS.hp (hm p0)
  refine wpAny_pyIter_list (lst_is ho) ?_
  refine for_core (J := fun i => .lit a i) (n := l.length) (val := fun i => l.getD i .none) (F := F) (inv := inv) (ρ := ρ) (src := fun σ => (a, MO.lst l) ∈ σ) ?_ ?_ hF (fun p ρ' h => mem_tail hF ρ' h) (fun _ p _ => hm p) ?_ fin hne (fun i v0 s' Q ⟨o, ho, hc, hd⟩ hq => letGo_it (.inl hc) hd ho hq) p0 h0 (s := { s with heap := _ }) ?_
  · intro i s σ hi S m hsrc Q k
    obtain ⟨o, ho, hc, hd⟩ := S.hp.at m
    obtain ⟨vs, n, hol, ev⟩ := lst_at S.hp hsrc
    have hv : l[i]? = some (l.getD i .none) := by rw [List.getD_eq_getElem?_getD, List.getElem?_eq_getElem hi]; rfl
    obtain ⟨x, hx, ex⟩ := arr_get ev hv
    refine wpAny_pyNext_list_item ⟨o, ho, hc, hd⟩ (lst_is hol) hx fun h' hit hsb => ?_
    obtain ⟨o', ho', hc', hd'⟩ := hit
    exact k x h' s.toks ex hsb ⟨o', ho', hc', hd'⟩
  · intro s σ S m hsrc Q k
    obtain ⟨o, ho, hc, hd⟩ := S.hp.at m
    obtain ⟨vs, n, hol, ev⟩ := lst_at S.hp hsrc
    exact wpAny_pyNext_list_end hh ⟨o, ho, hc, hd⟩ (lst_is hol) (by rw [Array.getElem?_eq_none_iff, arr_size ev]; exact Nat.le_refl _) fun h' hx => k h' hx
  · intro i p ρ' hi hinv hρ hsρ
    exact step i _ p ρ' (by rw [List.getD_eq_getElem?_getD, List.getElem?_eq_getElem hi]; rfl) hinv hρ hsρ
  · refine St.perm ?_ (perm_in hF p0 ρ _)
    exact hS.puth (hS.hp.new (mo := .lit a 0) rfl ⟨rfl, rfl⟩)
theorem fo_tup {P : Type} (F : P → Led → Led) (inv : Nat → P → Prop) (ρ : Led) (p0 : P) {target : Expr} {body : List Stmt} {N : Led → Prop} {R : AV → Led → Prop} (hh : A.handled = none)
    (hF : ∀ p ρ, F p ρ = F p [] ++ ρ) (hsb : Sb (F p0 ρ) σ) (hm : ∀ p, (a, .tup l) ∈ F p ρ) (h0 : inv 0 p0)
    (step : ∀ i v p ρ', l[i]? = some v → inv i p → (∀ q ∈ ρ, q ∈ ρ') → Sb ρ ρ' → Op1 c A (assign target env) id v (F p ρ') fun _ σ1 => X c A (execs body env) σ1 (fun σ2 => ∃ p', inv (i + 1) p' ∧ Sb (F p' ρ') σ2) (fun _ => False) (fun σ2 => ∃ p', inv (i + 1) p' ∧ Sb (F p' ρ') σ2) R)
    (fin : ∀ p, inv l.length p → N (F p ρ)) (hne : ∀ p, F p ρ ≠ [] := by intro _; exact List.cons_ne_nil _ _) : Fo c A env target body (.ref a) σ N R := by
  intro v0 e s hs
  cases er_ref e
  have hS := hs.sb hsb
  obtain ⟨vs, n, ho, ev⟩ := tup_at hS.hp (hm p0)
  refine wpAny_pyIter_tuple (tup_is ho) ?_
  refine for_core (J := fun i => .tit a i) (n := l.length) (val := fun i => l.getD i .none) (F := F) (inv := inv) (ρ := ρ) (src := fun σ => (a, MO.tup l) ∈ σ) ?_ ?_ hF (fun p ρ' h => mem_tail hF ρ' h) (fun _ p _ => hm p) ?_ fin hne (fun i v0 s' Q ⟨o, ho, hc, hd⟩ hq => letGo_it (.inr hc) hd ho hq) p0 h0 (s := { s with heap := _ }) ?_
  · intro i s σ hi S m hsrc Q k
    obtain ⟨o, ho, hc, hd⟩ := S.hp.at m
    obtain ⟨vs, n, hol, ev⟩ := tup_at S.hp hsrc
    have hv : l[i]? = some (l.getD i .none) := by rw [List.getD_eq_getElem?_getD, List.getElem?_eq_getElem hi]; rfl
    obtain ⟨x, hx, ex⟩ := arr_get ev hv
    refine wpAny_pyNext_tuple_item ⟨o, ho, hc, hd⟩ (tup_is hol) hx fun h' hit hsb => ?_
    obtain ⟨o', ho', hc', hd'⟩ := hit
    exact k x h' s.toks ex hsb ⟨o', ho', hc', hd'⟩
  · intro s σ S m hsrc Q k
    obtain ⟨o, ho, hc, hd⟩ := S.hp.at m
    obtain ⟨vs, n, hol, ev⟩ := tup_at S.hp hsrc
    exact wpAny_pyNext_tuple_end hh ⟨o, ho, hc, hd⟩ (tup_is hol) (by rw [Array.getElem?_eq_none_iff, arr_size ev]; exact Nat.le_refl _) fun h' hx => k h' hx
  · intro i p ρ' hi hinv hρ hsρ
    exact step i _ p ρ' (by rw [List.getD_eq_getElem?_getD, List.getElem?_eq_getElem hi]; rfl) hinv hρ hsρ
  · refine St.perm ?_ (perm_in hF p0 ρ _)
    exact hS.puth (hS.hp.new (mo := .tit a 0) rfl ⟨rfl, rfl⟩)
theorem fo_rng {P : Type} {x y : Int} (F : P → Led → Led) (inv : Nat → P → Prop) (ρ : Led) (p0 : P) {target : Expr} {body : List Stmt} {N : Led → Prop} {R : AV → Led → Prop} (hh : A.handled = none)
    (hb : -(2 ^ 62) ≤ x ∧ x < 2 ^ 62 ∧ -(2 ^ 62) ≤ y ∧ y < 2 ^ 62) (hF : ∀ p ρ, F p ρ = F p [] ++ ρ) (hsb : Sb ((a, .rng x y) :: F p0 ρ) σ) (h0 : inv 0 p0)
    (step : ∀ (i : Nat) p ρ', x + i < y → inv i p → (∀ q ∈ ρ, q ∈ ρ') → Sb ρ ρ' → Op1 c A (assign target env) id (.int (x + i)) (F p ρ') fun _ σ1 => X c A (execs body env) σ1 (fun σ2 => ∃ p', inv (i + 1) p' ∧ Sb (F p' ρ') σ2) (fun _ => False) (fun σ2 => ∃ p', inv (i + 1) p' ∧ Sb (F p' ρ') σ2) R)
    (fin : ∀ p, inv (y - x).toNat p → N (F p ρ)) (hne : ∀ p, F p ρ ≠ [] := by intro _; exact List.cons_ne_nil _ _) (ht : ∀ it v, letOwnedTupleGo target it v = pure () := by intro _ _; with_unfolding_all rfl) : Fo c A env target body (.ref a) σ N R := by
  intro v0 e s hs
  cases er_ref e
  have hS0 := hs.sb hsb
  obtain ⟨o, ho, t, u, v, rfl⟩ := hS0.hp.at (.head _)
  have hS : St c (F p0 ρ) s := ⟨hS0.hp.drop, hS0.gens, hS0.os⟩
  refine wpAny_pyIter_range (a := x) (b := y) (c := 1) (t := t) (u := u) (v := v) ho (small_one hb.1 hb.2.1 hb.2.2.1 hb.2.2.2) ?_
  rw [rangeSize_nat]
  refine for_core (J := fun i => .rit (x + i) ((y - x).toNat - i)) (n := (y - x).toNat) (val := fun i => .int (x + i)) (F := F) (inv := inv) (ρ := ρ) (src := fun _ => True) ?_ ?_ hF (fun _ _ _ => trivial) (fun _ _ _ => trivial) ?_ fin hne (fun i v0 s' Q _ hq => by rw [ht]; exact wpAny_pure hq) p0 h0 (s := { s with heap := _ }) ?_
  · intro i s σ hi S m _ Q k
    obtain ⟨o, ho, rfl⟩ := S.hp.at m
    refine wpAny_pyNext_range_item ho (by omega) fun h' hit hsb => ?_
    refine k _ h' _ rfl hsb ⟨_, hit, ?_⟩
    show _ = _
    rw [show x + (i : Int) + 1 = x + ((i + 1 : Nat) : Int) by omega, show (((y - x).toNat : Nat) : Int) - (i : Int) - 1 = ((y - x).toNat : Int) - ((i + 1 : Nat) : Int) by omega]
  · intro s σ S m _ Q k
    obtain ⟨o, ho, rfl⟩ := S.hp.at m
    exact wpAny_pyNext_range_end hh ho (by omega) fun h' hx => k h' hx
  · intro i p ρ' hi hinv hρ hsρ
    exact step i p ρ' (by omega) hinv hρ hsρ
  · refine St.perm ?_ (perm_in hF p0 ρ _)
    exact hS.puth (hS.hp.new (mo := .rit (x + (0 : Nat)) ((y - x).toNat - (0 : Nat))) rfl (by show _ = _; simp))
end
end
section
set_option maxRecDepth 20000
section
variable {c : Cx} {A : Around} {env : Env} {σ σ' : Led} {pos : Pos} {a b : Addr} {l l' : List AV}
theorem er_cons {vs0 : List Value} {x : AV} {r : List AV} (h : vs0.map er = x :: r) : ∃ u t, vs0 = u :: t ∧ er u = x ∧ t.map er = r := by
  cases vs0 with
  | nil => cases h
  | cons u t => injection h with h1 h2; exact ⟨u, t, rfl, h1, h2⟩
theorem er_nil {vs0 : List Value} (h : vs0.map er = []) : vs0 = [] := List.map_eq_nil_iff.mp h
theorem lenS {vs : List Value} {n : Nat} (h : vs.length = n + 1) : ∃ a t, vs = a :: t ∧ t.length = n := by
  cases vs with
  | nil => cases h
  | cons a t => exact ⟨a, t, rfl, Nat.succ.inj h⟩
theorem len0 {vs : List Value} (h : vs.length = 0) : vs = [] := List.length_eq_zero_iff.mp h
theorem two_args {vs0 : List Value} {x y : AV} (h : vs0.map er = [x, y]) : ∃ u v, vs0 = [u, v] ∧ er u = x ∧ er v = y := by
  obtain ⟨u, t, rfl, e1, h⟩ := er_cons h
  obtain ⟨v, t, rfl, e2, h⟩ := er_cons h
  obtain rfl := er_nil h
  exact ⟨u, v, rfl, e1, e2⟩
theorem one_arg {vs0 : List Value} {x : AV} (h : vs0.map er = [x]) : ∃ u, vs0 = [u] ∧ er u = x := by
  obtain ⟨u, t, rfl, e1, h⟩ := er_cons h
  obtain rfl := er_nil h
  exact ⟨u, rfl, e1⟩
theorem b_len {Q : AV → Led → Prop} (m : (a, .lst l) ∈ σ) (hl : l.length < 2 ^ 62) (h : Q (.int l.length) σ) : Call c A (.oth (.builtin "len")) [.ref a] σ Q := by
  intro f0 vs0 e1 e2 s hs
  obtain rfl := er_oth e1
  obtain ⟨u, rfl, e⟩ := one_arg e2
  cases er_ref e
  obtain ⟨vs, n, ho, ev⟩ := lst_at hs.hp m
  have hz := arr_size ev
  refine len_list (lst_is ho) (by rw [hz]; omega) ⟨σ, hs.tok, ?_⟩
  rw [hz]; exact h
theorem b_range1 {n : Int} {Q : AV → Led → Prop} (h : ∀ r, Q (.ref r) ((r, .rng 0 n) :: σ)) : Call c A (.oth (.type "range")) [.int n] σ Q := by
  intro f0 vs0 e1 e2 s hs
  obtain rfl := er_oth e1
  obtain ⟨u, rfl, e⟩ := one_arg e2
  obtain ⟨t, rfl⟩ := er_int e
  exact call_range_1 ⟨_, hs.put (hs.hp.new (mo := .rng 0 n) rfl ⟨_, _, _, rfl⟩), h _⟩
theorem b_range2 {x y : Int} {Q : AV → Led → Prop} (h : ∀ r, Q (.ref r) ((r, .rng x y) :: σ)) : Call c A (.oth (.type "range")) [.int x, .int y] σ Q := by
  intro f0 vs0 e1 e2 s hs
  obtain rfl := er_oth e1
  obtain ⟨u, v, rfl, e, e'⟩ := two_args e2
  obtain ⟨t, rfl⟩ := er_int e
  obtain ⟨t', rfl⟩ := er_int e'
  exact call_range_2 ⟨_, hs.put (hs.hp.new (mo := .rng x y) rfl ⟨_, _, _, rfl⟩), h _⟩
theorem b_max {x y : Int} {Q : AV → Led → Prop} (hh : A.handled = none) (h : Q (.int (max x y)) σ) (hne : σ ≠ [] := by exact List.cons_ne_nil _ _) : Call c A (.oth (.builtin "max")) [.int x, .int y] σ Q := by
  intro f0 vs0 e1 e2 s hs
  obtain rfl := er_oth e1
  obtain ⟨u, v, rfl, e, e'⟩ := two_args e2
  obtain ⟨t, rfl⟩ := er_int e
  obtain ⟨t', rfl⟩ := er_int e'
  refine max_two_ints hh fun h' tk hk => ⟨σ, hs.put (hs.hp.growL hk (by first | assumption | exact List.ne_nil_of_mem m)), ?_⟩
  by_cases q : y > x
  · rw [if_pos q]; have : max x y = y := by omega
    rw [this] at h; exact h
  · rw [if_neg q]; have : max x y = x := by omega
    rw [this] at h; exact h
theorem b_min {x y : Int} {Q : AV → Led → Prop} (hh : A.handled = none) (h : Q (.int (min x y)) σ) (hne : σ ≠ [] := by exact List.cons_ne_nil _ _) : Call c A (.oth (.builtin "min")) [.int x, .int y] σ Q := by
  intro f0 vs0 e1 e2 s hs
  obtain rfl := er_oth e1
  obtain ⟨u, v, rfl, e, e'⟩ := two_args e2
  obtain ⟨t, rfl⟩ := er_int e
  obtain ⟨t', rfl⟩ := er_int e'
  refine min_two_ints hh fun h' tk hk => ⟨σ, hs.put (hs.hp.growL hk (by first | assumption | exact List.ne_nil_of_mem m)), ?_⟩
  by_cases q : y < x
  · rw [if_pos q]; have : min x y = y := by omega
    rw [this] at h; exact h
  · rw [if_neg q]; have : min x y = x := by omega
    rw [this] at h; exact h
theorem b_abs {x : Int} {Q : AV → Led → Prop} (h : Q (.int (if x < 0 then -x else x)) σ) : Call c A (.oth (.builtin "abs")) [.int x] σ Q := by
  intro f0 vs0 e1 e2 s hs
  obtain rfl := er_oth e1
  obtain ⟨u, rfl, e⟩ := one_arg e2
  obtain ⟨t, rfl⟩ := er_int e
  exact call_abs_int fun u tk => ⟨σ, hs.tok, h⟩
theorem b_tuple {Q : AV → Led → Prop} (m : (a, .lst l) ∈ σ) (hl : l.length ≤ 1000000) (h : ∀ r, Q (.ref r) ((r, .tup l) :: σ)) : Call c A (.oth (.type "tuple")) [.ref a] σ Q := by
  intro f0 vs0 e1 e2 s hs
  obtain rfl := er_oth e1
  obtain ⟨u, rfl, e⟩ := one_arg e2
  cases er_ref e
  obtain ⟨vs, n, ho, ev⟩ := lst_at hs.hp m
  have hz := arr_size ev
  refine call_tuple_list (lst_is ho) (fun h' hk => ⟨_, hs.puth ((hs.hp.growL hk (List.ne_nil_of_mem m)).new (mo := .tup l) rfl ⟨vs, 0, rfl, ev⟩), h _⟩) (by rw [hz]; unfold sizeLine; omega)
theorem b_list {Q : AV → Led → Prop} (m : (a, .lst l) ∈ σ) (hl : l.length ≤ 1000000) (h : ∀ r, Q (.ref r) ((r, .lst l) :: σ)) : Call c A (.oth (.type "list")) [.ref a] σ Q := by
  intro f0 vs0 e1 e2 s hs
  obtain rfl := er_oth e1
  obtain ⟨u, rfl, e⟩ := one_arg e2
  cases er_ref e
  obtain ⟨vs, n, ho, ev⟩ := lst_at hs.hp m
  have hz := arr_size ev
  refine call_list_seq _ (.inl rfl) ho rfl rfl (fun h' c' hk hD => ⟨(s.heap.objs.size, .lst l) :: σ, hs.puth ⟨fun b o e => hk b o (hs.hp.keep b o e), (hs.hp.growL hk (List.ne_nil_of_mem m)).sz, fun p hp => ?_, ?_⟩, h _⟩) (by rw [hz]; unfold sizeLine; omega)
  · rcases List.mem_cons.mp hp with rfl | hp
    · exact ⟨⟨_, hD, vs, c', rfl, ev⟩, hs.hp.sz⟩
    · obtain ⟨⟨o', e, q⟩, l⟩ := hs.hp.has p hp
      exact ⟨⟨o', hk _ _ e, q⟩, l⟩
  · rw [List.map_cons, List.nodup_cons]
    refine ⟨fun q => ?_, hs.hp.nd⟩
    obtain ⟨p, hp, e⟩ := List.mem_map.mp q
    obtain ⟨⟨o', e', _⟩, _⟩ := hs.hp.has p hp
    have := Heap.lt_size e'
    rw [e] at this
    exact Nat.lt_irrefl _ this
noncomputable def il (ns : List Int) : List AV := ns.map .int
theorem ints_are : ∀ {ns : List Int} {vs : List Value}, vs.map er = il ns → IntsAre vs ns
  | [], [], _ => .nil
  | n :: ns, v :: vs, h => by
    simp [il] at h
    obtain ⟨t, rfl⟩ := er_int h.1
    exact .cons _ _ (ints_are (by simpa [il] using h.2))
theorem b_sum {ns : List Int} {Q : AV → Led → Prop} (hh : A.handled = none) (m : (a, .lst (il ns)) ∈ σ) (h : Q (.int ns.sum) σ) : Call c A (.oth (.builtin "sum")) [.ref a] σ Q := by
  intro f0 vs0 e1 e2 s hs
  obtain rfl := er_oth e1
  obtain ⟨u, rfl, e⟩ := one_arg e2
  cases er_ref e
  obtain ⟨vs, n, ho, ev⟩ := lst_at hs.hp m
  have hi : IntsAre vs.toList ns := ints_are ev
  obtain ⟨xs, hx⟩ := hi.allInts.items
  have hl := lst_is ho
  have hn : numsOf vs.toList.toArray.toList = ns := by rw [show vs.toList.toArray.toList = vs.toList from rfl, hi.numsOf]
  have e0 : vs = intItems xs := by rw [← hx, Array.toArray_toList]
  rw [Array.toArray_toList, e0, nums_intItems] at hn
  rw [e0] at hl
  refine sum_intListG hh hl fun h' tk t' hk => ⟨σ, hs.put (hs.hp.growL hk (by first | assumption | exact List.ne_nil_of_mem m)), ?_⟩
  rw [preSum_eq, List.take_of_length_le (by simp), hn]
  exact h
theorem g_list {name : Str} {id : String} {Q : AV → List AV → Led → Prop} (m : (a, .lst l) ∈ σ) (slot : Slot "list" name id) (hty : typeOf (.builtin id) = pure (.type "method_descriptor")) (h : Q (.oth (.builtin id)) [.ref a] σ) : Gm c A (.ref a) name σ Q := by
  intro v pl e s hs
  cases er_ref e
  obtain ⟨vs, n, ho, ev⟩ := lst_at hs.hp m
  exact getMethod_builtin ⟨_, ho, rfl⟩ PySem.F.plainAttrs_list slot hty (fun a e => by cases e; exact ⟨_, ho, rfl⟩) ⟨σ, hs, h⟩
theorem g_append {Q : AV → List AV → Led → Prop} (m : (a, .lst l) ∈ σ) (h : Q (.oth (.builtin "list.append")) [.ref a] σ) : Gm c A (.ref a) (Str.ofString "append") σ Q := g_list m PySem.F.slot_list_append PySem.F.type_list_append h
theorem g_pop {Q : AV → List AV → Led → Prop} (m : (a, .lst l) ∈ σ) (h : Q (.oth (.builtin "list.pop")) [.ref a] σ) : Gm c A (.ref a) (Str.ofString "pop") σ Q := g_list m PySem.F.slot_list_pop PySem.F.type_list_pop h
theorem g_reverse {Q : AV → List AV → Led → Prop} (m : (a, .lst l) ∈ σ) (h : Q (.oth (.builtin "list.reverse")) [.ref a] σ) : Gm c A (.ref a) (Str.ofString "reverse") σ Q := g_list m PySem.F.slot_list_reverse PySem.F.type_list_reverse h
theorem b_append {v : AV} {Q : AV → Led → Prop} (U : Up a (.lst l) (.lst (l ++ [v])) σ σ') (hl : l.length ≤ 1000000) (h : Q .none σ') : Call c A (.oth (.builtin "list.append")) [.ref a, v] σ Q := by
  intro f0 vs0 e1 e2 s hs
  obtain rfl := er_oth e1
  obtain ⟨u, x, rfl, e, ex⟩ := two_args e2
  cases er_ref e
  obtain ⟨vs, n, ho, ev⟩ := lst_at hs.hp U.mem
  have hz := arr_size ev
  refine append_at ho (fun h' hsb ho' => ⟨σ', hs.puth (hs.hp.change U hsb ho' ⟨_, _, rfl, ?_⟩), h⟩) (by rw [hz]; unfold sizeLine; omega)
  rw [Array.toList_push, List.map_append, ev, List.map_singleton, ex]
theorem lst_upd {h : Heap} {vs vs' : Array Value} {n : Nat} (ho : h.get? a = some (W.listOf vs n)) (f : Array Value → Array Value) (e : f vs = vs') : ∃ n', (h.update a (Obj.mapSeq f)).get? a = some (W.listOf vs' n') := by
  have := PySem.IsL.update ho f
  rw [e] at this
  exact ⟨_, this⟩
theorem b_pop {v : AV} {Q : AV → Led → Prop} (U : Up a (.lst (l ++ [v])) (.lst l) σ σ') (hl : l.length ≤ 1000000) (h : Q v σ') : Call c A (.oth (.builtin "list.pop")) [.ref a] σ Q := by
  intro f0 vs0 e1 e2 s hs
  obtain rfl := er_oth e1
  obtain ⟨u, rfl, e⟩ := one_arg e2
  cases er_ref e
  obtain ⟨vs, n, ho, ev⟩ := lst_at hs.hp U.mem
  have hz := arr_size ev
  rw [List.length_append, List.length_singleton] at hz
  obtain ⟨x, hx, ex⟩ := arr_get ev (i := l.length) (v := v) (by simp)
  have hk : vs.size - 1 = l.length := by omega
  have hy : vs[vs.size - 1]? = some x := by rw [hk]; exact hx
  refine call_meets PySem.F.slot_list_pop ⟨_, ho, rfl⟩ PySem.F.entry_list_pop (PySem.F.args_list_pop_1 _) (PySem.MeetsSeq.list_pop_last a vs n x hy (by rw [hz]; unfold sizeLine; omega)) ⟨ho, ?_⟩
  obtain ⟨n', ho'⟩ := lst_upd (h := s.heap) (vs' := vs.eraseIdxIfInBounds (vs.size - 1)) ho (fun xs => xs.eraseIdxIfInBounds (vs.size - 1)) rfl
  refine ⟨σ', hs.puth (hs.hp.change U (Heap.SameBut.update ..) ho' ⟨_, _, rfl, ?_⟩), ex ▸ h⟩
  rw [hk]
  obtain ⟨i1, i2, e3, h1, h2⟩ := List.map_eq_append_iff.mp ev
  obtain ⟨y, rfl, _⟩ := one_arg h2
  have hl1 : i1.length = l.length := by rw [← h1, List.length_map]
  have : (vs.eraseIdxIfInBounds l.length).toList = vs.toList.eraseIdx l.length := by simp
  rw [this, e3, ← hl1, List.eraseIdx_append_of_length_le (Nat.le_refl _)]
  simpa using h1
theorem b_reverse {Q : AV → Led → Prop} (U : Up a (.lst l) (.lst l.reverse) σ σ') (hl : l.length ≤ 1000000) (h : Q .none σ') : Call c A (.oth (.builtin "list.reverse")) [.ref a] σ Q := by
  intro f0 vs0 e1 e2 s hs
  obtain rfl := er_oth e1
  obtain ⟨u, rfl, e⟩ := one_arg e2
  cases er_ref e
  obtain ⟨vs, n, ho, ev⟩ := lst_at hs.hp U.mem
  have hz := arr_size ev
  refine call_meets PySem.F.slot_list_reverse ⟨_, ho, rfl⟩ PySem.F.entry_list_reverse (PySem.F.args_list_reverse_1 _) (AutoSeq1.list_reverse_list_0 a vs n (by rw [hz]; unfold sizeLine; omega)) ⟨ho, ?_⟩
  obtain ⟨n', ho'⟩ := lst_upd (h := s.heap) (vs' := vs.reverse) ho (fun xs => xs.reverse) rfl
  refine ⟨σ', hs.puth (hs.hp.change U (Heap.SameBut.update ..) ho' ⟨_, _, rfl, ?_⟩), h⟩
  rw [Array.toList_reverse, List.map_reverse, ev]
end
end
section
set_option maxRecDepth 20000
section
variable {c : Cx} {A : Around} {env : Env} {σ σ' : Led} {pos : Pos} {a b : Addr} {l l' : List AV}
theorem slice_upto (vs : Array Value) {y : Int} (h0 : 0 ≤ y) : slicePick vs none (some y) none = (vs.toList.take y.toNat).toArray := by
  rw [show (some y) = some ((y.toNat : Nat) : Int) by rw [Int.toNat_of_nonneg h0]]
  exact slicePick_upto' vs _
theorem slice_from (vs : Array Value) {y : Int} (h0 : 0 ≤ y) (h1 : y ≤ vs.size) : slicePick vs (some y) none none = (vs.toList.drop y.toNat).toArray := by
  rw [show (some y) = some ((y.toNat : Nat) : Int) by rw [Int.toNat_of_nonneg h0]]
  exact slicePick_from vs _ (by omega)
theorem e_upto {value e : Expr} {p : Pos} {Q : AV → Led → Prop} (h : E c A env value σ fun o σ1 => E c A env e σ1 fun u σ2 => ∃ a l n, o = .ref a ∧ (a, MO.lst l) ∈ σ2 ∧ u = .int n ∧ 0 ≤ n ∧ l.length ≤ 1000000 ∧ ∀ r, Q (.ref r) ((r, .lst (l.take n.toNat)) :: σ2))
    (ht : ∀ o r, letTemporaryGo value o r = pure () := by intro _ _; with_unfolding_all rfl) : E c A env (.Subscript value (.Slice none (some e) none p) pos) σ Q := fun s hs =>
  wpAny_Subscript_list_slice (wpAny_mono (h s hs) (fun o s1 ⟨σ1, h1, k1⟩ => evalPart_none_step (evalPart_some_step (wpAny_mono (k1 s1 h1) (fun u s2 ⟨σ2, h2, k2⟩ => by
    obtain ⟨a, l, n, eo, hm, eu, hn, hl, hq⟩ := k2
    cases er_ref eo
    obtain ⟨t, rfl⟩ := er_int eu
    obtain ⟨vs, nn, ho, ev⟩ := lst_at h2.hp hm
    have hz := arr_size ev
    refine ⟨a, vs, none, some n, rfl, lst_is ho, by rw [hz]; unfold sizeLine; omega, .none, .int _ _, (s2.heap.objs.size + 1, .lst (l.take n.toNat)) :: σ2, h2.puth ?_, hq _⟩
    rw [slice_upto vs hn]
    have H := (h2.hp.push { cls := .type "slice", data := .fields #[.none, .int n t, .none] }).new (mo := .lst (l.take n.toNat)) (o := { cls := .type "list", data := .seq (vs.toList.take n.toNat).toArray }) rfl ⟨_, 0, rfl, by rw [List.map_take, ev]⟩
    rw [Heap.size_push] at H
    exact H) fun _ _ x => x.elim))) fun _ _ x => x.elim) ht
theorem e_from {value e : Expr} {p : Pos} {Q : AV → Led → Prop} (h : E c A env value σ fun o σ1 => E c A env e σ1 fun u σ2 => ∃ a l n, o = .ref a ∧ (a, MO.lst l) ∈ σ2 ∧ u = .int n ∧ 0 ≤ n ∧ n ≤ l.length ∧ l.length ≤ 1000000 ∧ ∀ r, Q (.ref r) ((r, .lst (l.drop n.toNat)) :: σ2))
    (ht : ∀ o r, letTemporaryGo value o r = pure () := by intro _ _; with_unfolding_all rfl) : E c A env (.Subscript value (.Slice (some e) none none p) pos) σ Q := fun s hs =>
  wpAny_Subscript_list_slice (wpAny_mono (h s hs) (fun o s1 ⟨σ1, h1, k1⟩ => evalPart_some_step (wpAny_mono (k1 s1 h1) (fun u s2 ⟨σ2, h2, k2⟩ => evalPart_none_step (by
    obtain ⟨a, l, n, eo, hm, eu, hn, hn2, hl, hq⟩ := k2
    cases er_ref eo
    obtain ⟨t, rfl⟩ := er_int eu
    obtain ⟨vs, nn, ho, ev⟩ := lst_at h2.hp hm
    have hz := arr_size ev
    refine ⟨a, vs, some n, none, rfl, lst_is ho, by rw [hz]; unfold sizeLine; omega, .int _ _, .none, (s2.heap.objs.size + 1, .lst (l.drop n.toNat)) :: σ2, h2.puth ?_, hq _⟩
    rw [slice_from vs hn (by rw [hz]; exact hn2)]
    have H := (h2.hp.push { cls := .type "slice", data := .fields #[.int n t, .none, .none] }).new (mo := .lst (l.drop n.toNat)) (o := { cls := .type "list", data := .seq (vs.toList.drop n.toNat).toArray }) rfl ⟨_, 0, rfl, by rw [List.map_drop, ev]⟩
    rw [Heap.size_push] at H
    exact H)) fun _ _ x => x.elim)) fun _ _ x => x.elim) ht
noncomputable def Si (c : Cx) (A : Around) (o i v : AV) (σ : Led) (N : Led → Prop) : Prop := ∀ o0 i0 v0, er o0 = o → er i0 = i → er v0 = v → W c A (setItem o0 i0 v0) id σ fun _ => N
theorem x_setitem {o i value : Expr} {pos' : Pos} {N B C : Led → Prop} {R : AV → Led → Prop} (h : E c A env value σ fun v σ1 => E c A env o σ1 fun ov σ2 => E c A env i σ2 fun iv σ3 => Si c A ov iv v σ3 N)
    (hs : swapsWith value (some (.Subscript o i pos')) pos.line env = pure false := by with_unfolding_all rfl) : X c A (exec (.Assign [.Subscript o i pos'] value pos) env) σ N B C R := fun s hst =>
  wpAny_Assign_Subscript (wpAny_mono (h s hst) (fun v s1 ⟨σ1, h1, k1⟩ => wpAny_mono (k1 s1 h1) (fun ov s2 ⟨σ2, h2, k2⟩ => wpAny_mono (k2 s2 h2) (fun iv s3 ⟨σ3, h3, k3⟩ => wpAny_mono (k3 ov iv v rfl rfl rfl s3 h3) (fun _ s4 ⟨σ4, h4, k4⟩ => ⟨σ4, h4, k4⟩) fun _ _ x => x.elim) fun _ _ x => x.elim) fun _ _ x => x.elim) fun _ _ x => x.elim) hs
theorem si_list {k : Int} {v : AV} {N : Led → Prop} (U : Up a (.lst l) (.lst (l.set k.toNat v)) σ σ') (h0 : 0 ≤ k) (h1 : k < l.length) (hf : k < 2 ^ 63) (h : N σ') : Si c A (.ref a) (.int k) v σ N := by
  intro o0 i0 v0 e1 e2 e3 s hs
  cases er_ref e1
  obtain ⟨t, rfl⟩ := er_int e2
  obtain ⟨vs, n, ho, ev⟩ := lst_at hs.hp U.mem
  have hz := arr_size ev
  refine ki_setAt ho h0 hf (by rw [hz]; exact h1) ⟨σ', ?_, h⟩
  obtain ⟨n', ho'⟩ := lst_upd (h := s.heap) (vs' := vs.setIfInBounds k.toNat v0) ho (fun xs => xs.setIfInBounds k.toNat v0) rfl
  refine hs.puth (hs.hp.change U (Heap.SameBut.update ..) ho' ⟨_, _, rfl, ?_⟩)
  rw [Array.toList_setIfInBounds, List.map_set, ev, e3]
noncomputable def dget (l : List (Int × AV)) (k : Int) : Option AV := (l.find? (fun x => x.1 = k)).map (·.2)
noncomputable def dput (l : List (Int × AV)) (k : Int) (v : AV) : List (Int × AV) := if (l.any fun x => x.1 = k) then l.map (fun x => if x.1 = k then (x.1, v) else x) else l ++ [(k, v)]
theorem dct_at {d : List (Int × AV)} {h : Heap} (H : Hp c σ h) (m : (a, .dct d) ∈ σ) : ∃ kvs, h.DictOf (intKind c.prog c.w) a kvs ∧ kvs.map (fun x => (x.1, er x.2)) = d := by
  obtain ⟨o, ho, kvs, hd, e⟩ := H.at m
  exact ⟨kvs, Heap.dictOf_iff.mpr ⟨o, ho, hd⟩, e⟩
theorem low_ne' (G : Gd c) {h : Heap} (H : Hp c σ h) {mo : MO} (m : (a, mo) ∈ σ) : (a == sysModules) = false := by
  have hz := (H.has _ m).2
  obtain ⟨o, ho⟩ := Option.isSome_iff_exists.mp G.low
  have := Heap.lt_size ho
  have hne : a ≠ sysModules := fun e => by subst e; exact absurd this (Nat.not_lt.mpr hz)
  simp [hne]
theorem dget_at {kvs : List (Int × Value)} {d : List (Int × AV)} (e : kvs.map (fun x => (x.1, er x.2)) = d) (k : Int) : (valueAt kvs k).map er = dget d k := by
  subst e
  unfold dget valueAt
  rw [List.find?_map, Option.map_map]
  have : ((fun x : Int × AV => decide (x.1 = k)) ∘ fun x : Int × Value => (x.1, er x.2)) = fun x : Int × Value => decide (x.1 = k) := rfl
  rw [this]
  cases kvs.find? (fun x => decide (x.1 = k)) <;> rfl
end
end
section
set_option maxRecDepth 20000
section
variable {c : Cx} {A : Around} {env : Env} {L : Addr} {names : List (Str × NameKind)} {σ σ' : Led} {pos : Pos} {a b x d C f : Addr} {l l' : List AV} {K : Frag}
theorem x_expr {e : Expr} {N B C : Led → Prop} {R : AV → Led → Prop} (F : FrOk env L names) (h : E c A env e σ fun _ σ1 => N σ1) (hs : swapsWith e none pos.line env = pure false := by with_unfolding_all rfl) : X c A (exec (.Expr e pos) env) σ N B C R := fun s hst =>
  wpAny_Expr_any (wpAny_mono (h s hst) (fun v s1 ⟨σ1, h1, k1⟩ => ⟨σ1, h1, k1⟩) fun _ _ x => x.elim) (by unfold interactive; rw [F.kind]; rfl) hs
theorem o_name {x : Str} {pos : Pos} {v : AV} {Q : Unit → Led → Prop} (h : Op1 c A (storeName env x) id v σ Q) : Op1 c A (assign (.Name x pos) env) id v σ Q := fun v0 hv s hs => assign_Name (h v0 hv s hs)
noncomputable def As (c : Cx) (A : Around) (env : Env) (ts : List Expr) (vs : List AV) (σ : Led) (N : Led → Prop) : Prop := ∀ items, items.map er = vs → W c A (assignInOrder (ts.map fun e => assign e env) items) id σ fun _ σ' => N σ'
theorem as_nil {N : Led → Prop} (h : N σ) : As c A env [] [] σ N := fun items hi s hs => by
  cases List.map_eq_nil_iff.mp hi
  exact wpAny_assignInOrder_none ⟨σ, hs, h⟩
theorem as_cons {t : Expr} {ts : List Expr} {v : AV} {vs : List AV} {N : Led → Prop} (h : Op1 c A (assign t env) id v σ fun _ σ1 => As c A env ts vs σ1 N) : As c A env (t :: ts) (v :: vs) σ N := fun items hi s hs => by
  match items, hi with
  | u :: us, hi =>
    rw [List.map_cons, List.cons.injEq] at hi
    exact wpAny_assignInOrder_more (wpAny_mono (h u hi.1 s hs) (fun _ s1 ⟨σ1, h1, k1⟩ => k1 us hi.2 s1 h1) fun _ _ x => x.elim)
theorem o_tup {elts : List Expr} {k : Nat} {Q : Unit → Led → Prop} (hh : A.handled = none) (m : (a, .tup l) ∈ σ) (hl : elts.length = l.length) (h : As c A env elts l σ fun σ1 => Q () σ1)
    (he : assignEach elts env = elts.map (fun e => (false, assign e env)) := by with_unfolding_all rfl) : Op1 c A (assign (.Tuple elts k pos) env) id (.ref a) σ Q := fun v0 hv s hs => by
  cases er_ref hv
  obtain ⟨vs, n, ho, ev⟩ := tup_at hs.hp m
  have hz := arr_size ev
  refine assign_Tuple_tuple hh (tup_is ho) (by rw [he, List.length_map, hl, hz]) (by
    rw [he]
    clear h he hl
    rw [List.findIdx?_eq_none_iff]
    intro x hx
    obtain ⟨e, _, rfl⟩ := List.mem_map.mp hx
    rfl) (fun h' hx => ?_)
  have hk : ∀ b o, s.heap.get? b = some o → h'.get? b = some o := fun b o e => hx b o (Nat.ne_of_lt (Heap.lt_size e)) e
  rw [he, List.map_map]
  exact wpAny_mono (h _ ev _ (hs.puth (hs.hp.growL hk (List.ne_nil_of_mem m)))) (fun _ _ x => x) fun _ _ x => x
theorem x_unpack {elts : List Expr} {k : Nat} {tpos : Pos} {value : Expr} {N B C : Led → Prop} {R : AV → Led → Prop} (h : E c A env value σ fun v σ1 => Op1 c A (assign (.Tuple elts k tpos) env) id v σ1 fun _ σ2 => N σ2)
    (hs : swapsWithSole [.Tuple elts k tpos] value pos.line env = pure false := by with_unfolding_all rfl)
    (hw : swappedStores [.Tuple elts k tpos] value env = pure none := by with_unfolding_all rfl) : X c A (exec (.Assign [.Tuple elts k tpos] value pos) env) σ N B C R := fun s hst =>
  Assign_Tuple (wpAny_mono (h s hst) (fun v s1 ⟨σ1, h1, k1⟩ => wpAny_mono (k1 v rfl s1 h1) (fun _ s2 ⟨σ2, h2, k2⟩ => ⟨σ2, h2, k2⟩) fun _ _ x => x.elim) fun _ _ x => x.elim) hs hw
noncomputable def fget : List (Str × AV) → Str → Option AV
  | [], _ => none
  | (y, u) :: r, x => if y == x then some u else fget r x
noncomputable def fput : List (Str × AV) → Str → AV → List (Str × AV)
  | [], x, v => [(x, v)]
  | (y, u) :: r, x, v => if y == x then (y, v) :: r else (y, u) :: fput r x v
noncomputable abbrev dE (x : Str × Int × Tok × Value) : DictEntry := ⟨x.2.1, .str x.1 x.2.2.1, x.2.2.2⟩
theorem fld_get (x : Str) : ∀ q : List (Str × Int × Tok × Value), ∃ r, getL x (q.map dE) = some r ∧ r.map er = fget (q.map fun x => (x.1, er x.2.2.2)) x
  | [] => ⟨none, rfl, rfl⟩
  | p :: q => by
    obtain ⟨r, h1, h2⟩ := fld_get x q
    by_cases e : (p.1 == x) = true
    · refine ⟨some p.2.2.2, ?_, ?_⟩
      · unfold getL
        rw [List.map_cons, List.find?_cons_of_pos (by exact e)]
      · simp [fget, e]
    · refine ⟨r, ?_, ?_⟩
      · unfold getL at h1 ⊢
        rw [List.map_cons, List.find?_cons_of_neg (by exact e)]
        have : (List.any (dE p :: q.map dE) fun x => x.refKey) = List.any (q.map dE) fun x => x.refKey := by
          rw [List.any_cons, show (dE p).refKey = false from rfl, Bool.false_or]
        rw [this]; exact h1
      · rw [List.map_cons, fget, if_neg e]; exact h2
theorem fld_put (x : Str) (hsh : Int) (tk : Tok) (v : Value) : ∀ q : List (Str × Int × Tok × Value), ∃ q' : List (Str × Int × Tok × Value), putL x hsh (.str x tk) v (q.map dE) = q'.map dE ∧ q'.map (fun x => (x.1, er x.2.2.2)) = fput (q.map fun x => (x.1, er x.2.2.2)) x (er v) ∧ q'.length ≤ q.length + 1
  | [] => ⟨[(x, hsh, tk, v)], rfl, rfl, Nat.le_refl _⟩
  | p :: q => by
    obtain ⟨q', h1, h2, h3⟩ := fld_put x hsh tk v q
    by_cases e : (p.1 == x) = true
    · refine ⟨(p.1, p.2.1, p.2.2.1, v) :: q, ?_, ?_, by simp⟩
      · rw [List.map_cons, putL, if_pos (by exact e)]; rfl
      · simp [fput, e]
    · refine ⟨p :: q', ?_, ?_, by simp; exact h3⟩
      · rw [List.map_cons, putL, if_neg (by exact e), h1]; rfl
      · rw [List.map_cons, List.map_cons, h2, fput, if_neg e]
theorem fld_at {h : Heap} {r : List (Str × AV)} (H : Hp c σ h) (m : (d, .fld r) ∈ σ) : ∃ q n, h.get? d = some (dictOf (List.map dE q) n) ∧ r = q.map fun x => (x.1, er x.2.2.2) := by
  obtain ⟨o, ho, es, n, rfl, q, rfl, e⟩ := H.at m
  exact ⟨q, n, ho, e⟩
theorem ins_at {h : Heap} {r : List (Str × AV)} (H : Hp c σ h) (mi : (x, .ins C d) ∈ σ) (m : (d, .fld r) ∈ σ) : ∃ q n, InstAt h x (instObj C d) C (some (dictOf (List.map dE q) n)) ∧ h.get? d = some (dictOf (List.map dE q) n) ∧ r = q.map fun x => (x.1, er x.2.2.2) := by
  obtain ⟨q, n, hd, e⟩ := fld_at H m
  obtain ⟨o, ho, rfl⟩ := H.at mi
  exact ⟨q, n, ⟨ho, rfl, rfl, hd⟩, hd, e⟩
structure Pl (K : Frag) (C : Addr) : Prop where
  hga : findIn K (.ref C) "__getattribute__" = some (some (.builtin "object.__getattribute__"))
  hgt : findIn K (.ref C) "__getattr__" = some none
  hset : findIn K (.ref C) "__setattr__" = some (some (.builtin "object.__setattr__"))
  over : plainOver K C = true
  hd : (clsIn K C).any (·.hasDict) = true
noncomputable def AV.okv : AV → Bool
  | .oth (.builtin _) => false
  | _ => true
theorem okv_handed {v : Value} (h : (er v).okv = true) : handedIn v = true := by cases v <;> first | rfl | cases h
theorem g_attr {r : List (Str × AV)} {name : Str} {expr : Bool} {v : AV} {Q : AV → Led → Prop} (X : K.In c.B) (P : Pl K C) (mi : (x, .ins C d) ∈ σ) (mf : (d, .fld r) ∈ σ) (hn : findIn K (.ref C) name = some none) (hv : fget r name = some v) (hk : v.okv = true) (h : Q v σ) :
    Op1 c A (fun o => getAttr o name expr) er (.ref x) σ Q := fun o ho s hs => by
  cases er_ref ho
  obtain ⟨q, n, I, hd, e⟩ := ins_at hs.hp mi mf
  obtain ⟨r0, h1, h2⟩ := fld_get name q
  rw [← e, hv] at h2
  obtain ⟨v0, rfl, e0⟩ := Option.map_eq_some_iff.mp h2
  obtain ⟨cd, hc, hh⟩ := any_some P.hd
  refine get_value (v := v0) (X.keeps hs.hp.keep) I P.hga ?_ (okv_handed (by rw [e0]; exact hk)) ⟨σ, hs.tok, by rw [e0]; exact h⟩
  unfold findObj
  rw [hc, Option.bind_some, hn, Option.bind_some]
  show ((PySem.W.ownOf cd (some (dictOf (List.map dE q) n)) name).bind _) = _
  unfold PySem.W.ownOf
  rw [hh, if_pos rfl]
  show ((lookIn name (dictOf (List.map dE q) n)).bind _) = _
  rw [lookIn_dict, h1]; rfl
theorem e_attr {value : Expr} {attr : Str} {Q : AV → Led → Prop} (h : E c A env value σ fun o σ1 => Op1 c A (fun o => getAttr o attr true) er o σ1 Q)
    (he : eval (.Attribute value attr pos) env = (do
      let o ← eval value env
      standAt pos.atName
      let r ← holding [o] (getAttr o attr true)
      letTemporaryGo value o r
      pure r) := by with_unfolding_all rfl) : E c A env (.Attribute value attr pos) σ Q := fun s hs =>
  Attribute_any_ (prog := c.prog) (w := c.w) (wpAny_mono (h s hs) (fun v s1 ⟨σ1, h1, k1⟩ => k1 v rfl s1 h1) fun _ _ x => x.elim) he
theorem g_meth {r : List (Str × AV)} {name : Str} {Q : AV → List AV → Led → Prop} (X : K.In c.B) (P : Pl K C) (mi : (x, .ins C d) ∈ σ) (mf : (d, .fld r) ∈ σ) (hn : findIn K (.ref C) name = some (some (.ref f))) (ht : typeIn K (.ref f) = some (.type "function")) (hv : fget r name = none) (h : Q (.ref f) [.ref x] σ) :
    Gm c A (.ref x) name σ Q := fun o pl ho s hs => by
  cases er_ref ho
  obtain ⟨q, n, I, hd, e⟩ := ins_at hs.hp mi mf
  obtain ⟨r0, h1, h2⟩ := fld_get name q
  rw [← e, hv, Option.map_eq_none_iff] at h2
  subst h2
  exact method_fn (X.keeps hs.hp.keep) I P.hga P.hgt hn ht (by show (lookIn name (dictOf (List.map dE q) n)).map _ = _; rw [lookIn_dict, h1]; rfl) ⟨σ, hs, h⟩
end
end
section
set_option maxRecDepth 20000
section
variable {c : Cx} {A : Around} {env : Env} {L : Addr} {names : List (Str × NameKind)} {σ σ' : Led} {pos : Pos} {a b x d C f : Addr} {l l' : List AV} {K : Frag}
theorem fput_len (x : Str) (v : AV) : ∀ l : List (Str × AV), (fput l x v).length ≤ l.length + 1
  | [] => by simp [fput]
  | (y, u) :: r => by
    unfold fput
    split
    · simp
    · have := fput_len x v r; simp; omega
noncomputable def Sa (c : Cx) (A : Around) (o : AV) (name : Str) (v : AV) (σ : Led) (N : Led → Prop) : Prop := ∀ o0 v0, er o0 = o → er v0 = v → W c A (setAttr o0 name v0) id σ fun _ => N
theorem x_setattr {o value : Expr} {attr : Str} {pos' : Pos} {N B C : Led → Prop} {R : AV → Led → Prop} (h : E c A env value σ fun v σ1 => E c A env o σ1 fun ov σ2 => Sa c A ov attr v σ2 N)
    (hs : swapsWith value (some (.Attribute o attr pos')) pos.line env = pure false := by with_unfolding_all rfl) : X c A (exec (.Assign [.Attribute o attr pos'] value pos) env) σ N B C R := fun s hst =>
  plainObj_wpAny_Assign_Attribute (wpAny_mono (h s hst) (fun v s1 ⟨σ1, h1, k1⟩ => wpAny_mono (k1 s1 h1) (fun ov s2 ⟨σ2, h2, k2⟩ => wpAny_mono (k2 ov v rfl rfl s2 h2) (fun _ s4 ⟨σ4, h4, k4⟩ => ⟨σ4, h4, k4⟩) fun _ _ x => x.elim) fun _ _ x => x.elim) fun _ _ x => x.elim) hs
theorem sa_fld {r r' : List (Str × AV)} {name : Str} {v : AV} {N : Led → Prop} (X : K.In c.B) (P : Pl K C) (mi : (x, .ins C d) ∈ σ) (U : Up d (.fld r) (.fld r') σ σ') (hr : r' = fput r name v) (ht : takerIn K C name = some none) (hl : r.length ≤ 500) (h : N σ') :
    Sa c A (.ref x) name v σ N := fun o0 v0 e1 e2 s hs => by
  cases er_ref e1
  subst hr
  obtain ⟨q, n, I, hd, e⟩ := ins_at hs.hp mi U.mem
  refine set_plain (prog := c.prog) (w := c.w) (X.keeps hs.hp.keep) I P.hset ?_
  refine osa_open (X.keeps hs.hp.keep) I P.over ht fun b => ?_
  obtain ⟨cd, hc, hd'⟩ := any_some P.hd
  have Xs : K.In s.heap := X.keeps hs.hp.keep
  obtain ⟨q', p1, p2, p3⟩ := fld_put name (PyData.keyHash c.w.params name) (s.toks + 1) v0 q
  obtain ⟨r0, g1, g2⟩ := fld_get name q
  have hx : s.heap.get? x = some (instObj C d) := I.at_
  refine wpAny_bind (wpAny_pure (wpAny_bind (wpAny_bind (wpAny_loadPart hx (wpAny_bind (Looks.here (s := { s with toks := s.toks + 1 }) (looks_clsIn Xs hc) ?_))))))
  rw [hd']
  refine wpAny_pure (a := some d) (wpAny_bind (wpAny_pure (wpAny_bind ?_)))
  unfold nsSet
  refine wpAny_bind (wpAny_bind (wpAny_askSetting (wpAny_pure (wpAny_bind (wpAny_mkText (wpAny_bind (wpAny_loadPart hd ?_)))))))
  dsimp only
  have cc : (!(List.map dE q).toArray.any (·.key.isStr name) && (List.map dE q).toArray.any (·.refKey)) = false := by
    have : (List.map dE q).toArray.any (·.refKey) = false := by
      rw [List.any_toArray, List.any_eq_false]
      intro z hz
      obtain ⟨p, _, rfl⟩ := List.mem_map.mp hz
      exact Bool.false_ne_true
    rw [this, Bool.and_false]
  rw [aRefKeyMayBeTheName_at, cc]
  refine wpAny_updatePart hd ?_
  have D' := Heap.get?_update_self (Obj.putName name (PyData.keyHash c.w.params name) (.str name (s.toks + 1)) v0) hd (by rw [putName_dict]; rfl)
  rw [putName_dict, p1] at D'
  have hq : q.length = r.length := by rw [e, List.length_map]
  refine wpAny_bind (wpAny_lookBehind D' (pastItsLine_dict (by rw [List.size_toArray, List.length_map, sizeLine_eq]; omega)) ?_)
  refine wpAny_pure ⟨σ', ?_, h⟩
  exact hs.put (hs.hp.change U (Heap.SameBut.update ..) D' ⟨_, _, rfl, q', rfl, by rw [p2, ← e, e2]⟩)
theorem kp_cls (X : K.In c.B) (h : keepIn K (.ref C) = true) : Kp c (.ref C) := fun f0 e hh k => by
  cases er_ref e
  exact keeps_K h hh (X.keeps k)
theorem under_call (A : Around) (C : Addr) (rest : List Value) (kw : List (Str × Value)) : (A.under (.builtin "type.__call__" ⟨.ref C :: rest, kw⟩)).handled = A.handled ∧ (A.under (.builtin "type.__call__" ⟨.ref C :: rest, kw⟩)).depth ≤ A.depth + 2 ∧ (A.under (.builtin "type.__call__" ⟨.ref C :: rest, kw⟩)).units ≤ A.units + 8 := by
  refine ⟨rfl, ?_, ?_⟩
  · have : (Code.builtin "type.__call__" ⟨.ref C :: rest, kw⟩).weight ≤ 2 := by
      have h1 : (Code.builtin "type.__call__" ⟨.ref C :: rest, kw⟩).frames = 0 := by rfl
      have h2 : (Code.builtin "type.__call__" ⟨.ref C :: rest, kw⟩).isGuard = false := by rfl
      have h3 : (Code.builtin "type.__call__" ⟨.ref C :: rest, kw⟩).isCaller = false := by rfl
      unfold Code.weight
      rw [h1, h2, h3]
      split <;> simp
    show A.depth + _ ≤ _
    omega
  · have : (Code.builtin "type.__call__" ⟨.ref C :: rest, kw⟩).cUnits ≤ 8 := by
      have h1 : (Code.builtin "type.__call__" ⟨.ref C :: rest, kw⟩).frames = 0 := by rfl
      show 1 + 3 * _ ≤ 8
      rw [h1]; decide
    show A.units + _ ≤ _
    omega
theorem call_cls {vs : List AV} {Q : AV → Led → Prop} (X : K.In c.B) (hm : makesIn K C = true) (hi : findIn K (.ref C) "__init__" = some (some (.ref f))) (ht : typeIn K (.ref f) = some (.type "function"))
    (h : ∀ x d A', A'.handled = A.handled → A'.depth ≤ A.depth + 2 → A'.units ≤ A.units + 8 → CallC c A' (.ref f) (.ref x :: vs) ((x, .ins C d) :: (d, .fld []) :: σ) fun v σ' => v = .none ∧ Q (.ref x) σ') : Call c A (.ref C) vs σ Q := by
  intro f0 vs0 e1 e2 s hs
  cases er_ref e1
  refine wpAny_call ?_
  obtain ⟨hh, g, dd, t, os⟩ := s
  have Xs : K.In hh := X.keeps hs.hp.keep
  refine make_core (prog := c.prog) (w := c.w) (makes_of Xs hm) (looks_findIn Xs hi) (fun self => bind_fn Xs self ht) (.inl rfl) ?_
  have H1 := hs.hp.new (mo := .fld []) (o := emptyDict) rfl ⟨[], 0, rfl, [], rfl, rfl⟩
  have H2 := H1.new (mo := .ins C hh.objs.size) (o := instObj C hh.objs.size) rfl rfl
  rw [Heap.size_push] at H2
  obtain ⟨u1, u2, u3⟩ := under_call A C vs0 []
  refine codeAny_mono (h (hh.objs.size + 1) hh.objs.size _ u1 u2 u3 (.ref f) (.ref (hh.objs.size + 1) :: vs0) rfl (by rw [List.map_cons, e2]; rfl) _ ⟨H2, hs.gens, hs.os⟩) (fun r s' z => ?_)
  match r, z with
  | .ok (.ret v), ⟨σ', h1, e, k⟩ => exact ⟨er_none e, σ', h1, k⟩
end
end
section
set_option maxRecDepth 20000
section
variable {c : Cx} {A : Around} {env : Env} {L : Addr} {names : List (Str × NameKind)} {σ σ' : Led} {pos : Pos} {a b x d C f : Addr} {l l' : List AV}
theorem u_dct {value slice : Expr} {dd : List (Int × AV)} {k : Int} {v : AV} {Q : AV → Led → Prop} (m : (a, .dct dd) ∈ σ) (hv : dget dd k = some v) (h : Q v σ)
    (hs : ∀ b i t, subscripted slice false (.ref b) (.int i t) = operate [.ref b, .int i t] (getItem (.ref b) (.int i t)) := by intros; with_unfolding_all rfl) : Op2 c A (subscriptTail value slice) er (.ref a) (.int k) σ Q := by
  intro v1 v2 e1 e2 s st
  cases er_ref e1
  obtain ⟨t, rfl⟩ := er_int e2
  obtain ⟨kvs, D, e⟩ := dct_at st.hp m
  have g := dget_at e k
  rw [hv] at g
  obtain ⟨x, hx, rfl⟩ := Option.map_eq_some_iff.mp g
  exact tail_any D.typeIs slot_dict_getitem.lookup (wpAny_getItem_of (intKind_is _ _ k t) D.mapOf hx ⟨σ, st.tok, h⟩) (hs _ _ _)
theorem dput_at {kvs : List (Int × Value)} {dd : List (Int × AV)} (e : kvs.map (fun x => (x.1, er x.2)) = dd) (k : Int) (v : Value) : (stored kvs k v).map (fun x => (x.1, er x.2)) = dput dd k (er v) := by
  subst e
  unfold stored dput
  have : (List.map (fun x : Int × Value => (x.1, er x.2)) kvs).any (fun x => decide (x.1 = k)) = kvs.any (fun kv => decide (kv.1 = k)) := by
    rw [List.any_map]; rfl
  rw [this]
  split
  · rw [List.map_map, List.map_map]
    refine List.map_congr_left fun x _ => ?_
    show (((if x.1 = k then (x.1, v) else x) : Int × Value).1, er ((if x.1 = k then (x.1, v) else x) : Int × Value).2) = if x.1 = k then (x.1, er v) else (x.1, er x.2)
    split <;> rfl
  · rw [List.map_append]; rfl
theorem si_dct {dd : List (Int × AV)} {k : Int} {v : AV} {N : Led → Prop} (U : Up a (.dct dd) (.dct (dput dd k v)) σ σ') (hl : dd.length ≤ 1000) (h : N σ') : Si c A (.ref a) (.int k) v σ N := by
  intro o0 i0 v0 e1 e2 e3 s hs
  cases er_ref e1
  obtain ⟨t, rfl⟩ := er_int e2
  obtain ⟨kvs, D, e⟩ := dct_at hs.hp U.mem
  have hz : kvs.length = dd.length := by rw [← e, List.length_map]
  refine wpAny_setItem_pairs (intKind_is _ _ k t) D (fun h' D' hsb => ⟨σ', ?_, h⟩) (by rw [hz, sizeLine_eq]; omega)
  obtain ⟨o, ho, hd⟩ := Heap.dictOf_iff.mp D'
  exact hs.put (hs.hp.change U hsb ho ⟨_, hd, by rw [dput_at e, e3]⟩)
theorem si_dcs {n : Nat} {k : Str} {v : AV} {N : Led → Prop} (U : Up a (.dcs n) (.dcs (n + 1)) σ σ') (hl : n ≤ 1000) (h : N σ') : Si c A (.ref a) (.str k) v σ N := by
  intro o0 i0 v0 e1 e2 e3 s hs
  cases er_ref e1
  obtain ⟨t, rfl⟩ := er_str e2
  obtain ⟨o, ho, kvs, hd, e⟩ := hs.hp.at U.mem
  refine wpAny_setItem_pairs (knd := strKind c.prog c.w) (strKind_is _ _ k t) (Heap.dictOf_iff.mpr ⟨o, ho, hd⟩) (fun h' D' hsb => ⟨σ', ?_, h⟩) (by rw [sizeLine_eq]; omega)
  obtain ⟨o, ho, hd⟩ := Heap.dictOf_iff.mp D'
  refine hs.put (hs.hp.change U hsb ho ⟨_, hd, ?_⟩)
  unfold stored
  split
  · rw [List.length_map]; omega
  · rw [List.length_append]; simp; omega
theorem o_in_dct (G : Gd c) {dd : List (Int × AV)} {k : Int} {Q : AV → Led → Prop} (m : (a, .dct dd) ∈ σ) (h : Q (.bool (dget dd k).isSome) σ) : Op2 c A (compareOp .In) er (.int k) (.ref a) σ Q := by
  intro v1 v2 e1 e2 s st
  cases er_ref e2
  obtain ⟨t, rfl⟩ := er_int e1
  obtain ⟨kvs, D, e⟩ := dct_at st.hp m
  refine wpAny_in_of (intKind_is _ _ k t) (low_ne' G st.hp m) D.mapOf ⟨σ, st.tok, ?_⟩
  have g := dget_at e k
  have : (valueAt kvs k).isSome = (dget dd k).isSome := by rw [← g, Option.isSome_map]
  show Q (.bool _) σ
  rw [this]; exact h
theorem o_notin_dct (G : Gd c) {dd : List (Int × AV)} {k : Int} {Q : AV → Led → Prop} (m : (a, .dct dd) ∈ σ) (h : Q (.bool (!(dget dd k).isSome)) σ) : Op2 c A (compareOp .NotIn) er (.int k) (.ref a) σ Q := by
  intro v1 v2 e1 e2 s st
  cases er_ref e2
  obtain ⟨t, rfl⟩ := er_int e1
  obtain ⟨kvs, D, e⟩ := dct_at st.hp m
  refine wpAny_notIn_of (intKind_is _ _ k t) (low_ne' G st.hp m) D.mapOf ⟨σ, st.tok, ?_⟩
  have g := dget_at e k
  have : (valueAt kvs k).isSome = (dget dd k).isSome := by rw [← g, Option.isSome_map]
  show Q (.bool _) σ
  rw [this]; exact h
theorem g_get {dd : List (Int × AV)} {Q : AV → List AV → Led → Prop} (m : (a, .dct dd) ∈ σ) (h : Q (.oth (.builtin "dict.get")) [.ref a] σ) : Gm c A (.ref a) (Str.ofString "get") σ Q := by
  intro v pl e s hs
  cases er_ref e
  obtain ⟨kvs, D, e⟩ := dct_at hs.hp m
  have D' := D
  obtain ⟨o, es, ep, ho, hc, _⟩ := D'
  exact getMethod_builtin D.typeIs PySem.F.plainAttrs_dict PySem.F.slot_dict_get PySem.F.type_dict_get (fun a e => by cases e; exact ⟨o, ho, hc.2.1⟩) ⟨σ, hs, h⟩
noncomputable def orNone : Option AV → AV
  | some v => v
  | none => .none
theorem b_get (G : Gd c) {dd : List (Int × AV)} {k : Int} {Q : AV → Led → Prop} (m : (a, .dct dd) ∈ σ) (h : Q (orNone (dget dd k)) σ) : Call c A (.oth (.builtin "dict.get")) [.ref a, .int k] σ Q := by
  intro f0 vs0 e1 e2 s hs
  obtain rfl := er_oth e1
  obtain ⟨u, v, rfl, e, e'⟩ := two_args e2
  cases er_ref e
  obtain ⟨t, rfl⟩ := er_int e'
  obtain ⟨kvs, D, e⟩ := dct_at hs.hp m
  have g := dget_at e k
  refine wpAny_call_entry PySem.F.slot_dict_get D.typeIs PySem.F.entry_dict_get ?_ (by unfold argsOk; kernel_rfl)
  show wpAny _ _ (dictGet a (.int k t) >>= _) _ _ s
  refine wpAny_bind (wpAny_dictGet_of (intKind_is _ _ k t) D.mapOf ?_)
  cases hf : valueAt kvs k with
  | some v =>
    rw [hf] at g
    rw [← g] at h
    exact wpAny_pure ⟨v, rfl, σ, hs.tok, h⟩
  | none =>
    rw [hf] at g
    rw [← g] at h
    show wpAny _ _ (Builtin.Dict.missed a (.int k t) >>= _) _ _ _
    exact wpAny_bind (wpAny_missed_other (low_ne' G hs.hp m) (wpAny_pure ⟨.none, rfl, σ, hs.tok, h⟩))
end
end
section
set_option maxRecDepth 20000
section
variable {c : Cx} {A : Around} {env : Env} {L : Addr} {names : List (Str × NameKind)} {σ σ' : Led} {pos : Pos} {a b x d C f r : Addr} {l l' : List AV}
theorem Hp.add2 {h h' : Heap} {mo : MO} {o : Obj} (H : Hp c σ h) (k : ∀ b o, h.get? b = some o → h'.get? b = some o) (hb : c.B.objs.size ≤ r) (hn : ∀ p ∈ σ, p.1 ≠ r) (ho : h'.get? r = some o) (ok : mo.Ok c o) : Hp c ((r, mo) :: σ) h' where
  keep b o e := k b o (H.keep b o e)
  sz := Nat.le_trans hb (Nat.le_of_lt (Heap.lt_size ho))
  has p hp := by
    rcases List.mem_cons.mp hp with rfl | hp
    · exact ⟨⟨o, ho, ok⟩, hb⟩
    · obtain ⟨⟨o', e, q⟩, l⟩ := H.has p hp
      exact ⟨⟨o', k _ _ e, q⟩, l⟩
  nd := by
    rw [List.map_cons, List.nodup_cons]
    refine ⟨fun q => ?_, H.nd⟩
    obtain ⟨p, hp, e⟩ := List.mem_map.mp q
    exact hn p hp e
theorem Hp.add {h h' : Heap} {mo : MO} {o : Obj} (H : Hp c σ h) (k : ∀ b o, h.get? b = some o → h'.get? b = some o) (hr : h.objs.size ≤ r) (ho : h'.get? r = some o) (ok : mo.Ok c o) : Hp c ((r, mo) :: σ) h' :=
  H.add2 k (Nat.le_trans H.sz hr) (fun p hp e => by
    obtain ⟨⟨o', e', _⟩, _⟩ := H.has p hp
    have := Heap.lt_size e'
    rw [e] at this
    exact Nat.lt_irrefl _ (Nat.lt_of_lt_of_le this hr)) ho ok
theorem il_of_ints {vs : List Value} {ns : List Int} (h : IntsAre vs ns) : vs.map er = il ns := by
  induction h with
  | nil => rfl
  | cons n t _ ih => simp only [List.map_cons, ih, il]; rfl
theorem lst_ints {h : Heap} {ns : List Int} (H : Hp c σ h) (m : (a, .lst (il ns)) ∈ σ) : ∃ vs : List Value, h.IsList a vs.toArray ∧ IntsAre vs ns := by
  obtain ⟨vs, n, ho, ev⟩ := lst_at H m
  exact ⟨vs.toList, by rw [Array.toArray_toList]; exact lst_is ho, ints_are ev⟩
theorem b_sorted {ns : List Int} {Q : AV → Led → Prop} (m : (a, .lst (il ns)) ∈ σ) (hl : ns.length < 64) (h : ∀ r ns', ns'.Perm ns → ns'.Pairwise (· ≤ ·) → Q (.ref r) ((r, .lst (il ns')) :: σ)) : Call c A (.oth (.builtin "sorted")) [.ref a] σ Q := by
  intro f0 vs0 e1 e2 s hs
  obtain rfl := er_oth e1
  obtain ⟨u, rfl, e⟩ := one_arg e2
  cases er_ref e
  obtain ⟨vs, hl', hi⟩ := lst_ints hs.hp m
  refine sorted_ints hl' hi (by rw [hi.length]; exact hl) fun out ns' a1 a2 a3 => ?_
  obtain ⟨ee, he⟩ := sortedAll_at s.heap vs out
  exact ⟨_, hs.puth (hs.hp.add (mo := .lst (il ns')) (fun _ _ => sortedAll_old) (Nat.le_succ _) he ⟨out, ee, rfl, il_of_ints a1⟩), h _ _ a2 a3⟩
theorem b_sortedD (G : Gd c) {dd : List (Int × AV)} {Q : AV → Led → Prop} (hh : A.handled = none) (m : (a, .dct dd) ∈ σ) (hl : dd.length < 64) (h : ∀ r ns', ns'.Perm (dd.map (·.1)) → ns'.Pairwise (· ≤ ·) → Q (.ref r) ((r, .lst (il ns')) :: σ)) : Call c A (.oth (.builtin "sorted")) [.ref a] σ Q := by
  intro f0 vs0 e1 e2 s hs
  obtain rfl := er_oth e1
  obtain ⟨u, rfl, e⟩ := one_arg e2
  cases er_ref e
  obtain ⟨kvs, D, e⟩ := dct_at hs.hp m
  have hz : kvs.length = dd.length := by rw [← e, List.length_map]
  obtain ⟨ep, hat⟩ := D.dictAt
  refine call_function_entry kind_sorted plain_sorted entry_sorted (args_sorted1 _) ?_
  unfold Builtin.«sorted»
  refine wpAny_bind (m := checkCount "sorted" 1 1 _) (wpAny_pure ?_)
  refine wpAny_bind (kdu_collect (A := A.in1) (kdl_dict (knd := intKind c.prog c.w) (kvs := kvs) (ep := ep) (low_ne' G hs.hp m)) hh hat (by rw [hz, sizeLine_eq]; omega) fun h' tk acc hk hacc => ?_)
  have hlen : acc.toList.length = kvs.length := by rw [Array.length_toList]; exact hacc.1
  have hI : IntsAre acc.toList (kvs.map (·.1)) := by
    refine ints_are ?_
    refine List.ext_getElem? fun i => ?_
    rw [List.getElem?_map, il, List.getElem?_map, List.getElem?_map]
    cases hi : acc.toList[i]? with
    | none =>
      have : kvs[i]? = none := by rw [List.getElem?_eq_none_iff] at hi ⊢; omega
      rw [this]; rfl
    | some v =>
      obtain ⟨k, xx, hx, hk⟩ := hacc.2 i v (by rw [← Array.getElem?_toList]; exact hi)
      rw [hx]
      obtain ⟨t, rfl⟩ := Value.isInt_shape hk
      rfl
  refine wpAny_bind (wpAny_newList ?_ (by rw [hlen, hz, sizeLine_eq]; omega))
  have hoL : (h'.push { cls := .type "list", data := .seq acc.toList.toArray }).get? h'.objs.size = some (seqObj "list" acc.toList.toArray 0) := Heap.get?_push_size _ rfl
  refine wpAny_bind (wpAny_holding (wpAny_call_entry PyProof.Rows.slot_list_sort ⟨_, hoL, rfl⟩ PyProof.Rows.entry_list_sort (list_sort_tree (n := 0) (vs := acc.toList) hoL hI (by rw [hlen, hz]; exact hl) fun out ns' a1 a2 a3 => ?_) (PyProof.Rows.args_list_sort _)))
  refine ⟨.none, rfl, wpAny_pure ⟨_, rfl, _, ?_, h h'.objs.size ns' (by rw [← e, List.map_map]; exact a2) a3⟩⟩
  obtain ⟨ee, he⟩ := sortedHeap_at (h := h'.push { cls := .type "list", data := .seq acc.toList.toArray }) (a := h'.objs.size) (vs := acc.toList) (out := out) (n := 0) hoL
  have hlt : ∀ p ∈ σ, p.1 < h'.objs.size := fun p hp => by
    obtain ⟨⟨o, e, _⟩, _⟩ := hs.hp.has p hp
    exact Heap.lt_size (hk _ _ e)
  refine ⟨hs.hp.add2 (r := h'.objs.size) (mo := .lst (il ns')) (fun b o q => ?_) ?_ (fun p hp => Nat.ne_of_lt (hlt p hp)) he ⟨out, ee, rfl, il_of_ints a1⟩, hs.gens, hs.os⟩
  · have hb : h'.get? b = some o := hk _ _ q
    have hlt := Heap.lt_size hb
    rw [sortedHeap_old (Nat.ne_of_lt hlt) (by rw [Heap.size_push]; exact Nat.lt_succ_of_lt hlt)]
    exact Heap.get?_push_of_some _ hb
  · exact Nat.le_trans (hs.hp.has _ m).2 (Nat.le_of_lt (hlt _ m))
theorem o_addl {Q : AV → Led → Prop} (m : (a, .lst l) ∈ σ) (m' : (b, .lst l') ∈ σ) (hl : l.length + l'.length ≤ 1000000) (h : ∀ r, Q (.ref r) ((r, .lst (l ++ l')) :: σ)) : Op2 c A (binaryOp .Add) er (.ref a) (.ref b) σ Q := by
  intro v w e1 e2 s hs
  cases er_ref e1
  cases er_ref e2
  obtain ⟨vs, n, ho, ev⟩ := lst_at hs.hp m
  obtain ⟨ws, n2, ho2, ew⟩ := lst_at hs.hp m'
  have z1 := arr_size ev
  have z2 := arr_size ew
  refine concat_meets ⟨_, ho, rfl⟩ ⟨_, ho2, rfl⟩ noFill_list_add seq_list_add PySem.F.slot_list_add PySem.F.entry_list_add (PySem.F.args_list_add_2 _ _) (list_addW a b vs ws n n2 none none #[] #[] (by rw [z1, z2, sizeLine_eq]; omega)) ⟨ho, ho2, ?_⟩
  exact ⟨_, hs.puth (hs.hp.new (mo := .lst (l ++ l')) rfl ⟨vs ++ ws, 0, rfl, by rw [Array.toList_append, List.map_append, ev, ew]⟩), h _⟩
theorem o_notin_lst {ns : List Int} {k : Int} {Q : AV → Led → Prop} (m : (a, .lst (il ns)) ∈ σ) (h : Q (.bool (!(ns.any (· == k)))) σ) : Op2 c A (compareOp .NotIn) er (.int k) (.ref a) σ Q := by
  intro v w e1 e2 s hs
  cases er_ref e2
  obtain ⟨t, rfl⟩ := er_int e1
  obtain ⟨vs, hl, hi⟩ := lst_ints hs.hp m
  exact notin_list_ints hl hi ⟨σ, hs, h⟩
noncomputable def sl (ys : List Str) : List AV := ys.map .str
theorem strs_are : ∀ {ys : List Str} {vs : List Value}, vs.map er = sl ys → StrsAre vs ys
  | [], [], _ => .nil
  | n :: ns, v :: vs, h => by
    simp [sl] at h
    obtain ⟨t, rfl⟩ := er_str h.1
    exact .cons _ _ (strs_are (by simpa [sl] using h.2))
theorem o_in_tup {ys : List Str} {k : Str} {Q : AV → Led → Prop} (m : (a, .tup (sl ys)) ∈ σ) (h : Q (.bool (ys.any (· == k))) σ) : Op2 c A (compareOp .In) er (.str k) (.ref a) σ Q := by
  intro v w e1 e2 s hs
  cases er_ref e2
  obtain ⟨t, rfl⟩ := er_str e1
  obtain ⟨vs, n, ho, ev⟩ := tup_at hs.hp m
  exact in_tuple_strs (tup_is ho) (strs_are ev) ⟨σ, hs, h⟩
theorem u_str {value slice : Expr} {k : Int} {x : Str} {Q : AV → Led → Prop} (h0 : 0 ≤ k) (h1 : k < x.length) (hl : x.length < 2 ^ 62) (h : Q (.str (Txt.item x k)) σ)
    (hs : ∀ x u i t, subscripted slice false (.str x u) (.int i t) = operate [.str x u, .int i t] (getItem (.str x u) (.int i t)) := by intros; with_unfolding_all rfl)
    (ht : ∀ x u r, letTemporaryGo value (.str x u) r = pure () := by intro _ _ _; with_unfolding_all rfl) : Op2 c A (subscriptTail value slice) er (.str x) (.int k) σ Q := by
  intro v1 v2 e1 e2 s st
  obtain ⟨u, rfl⟩ := er_str e1
  obtain ⟨t, rfl⟩ := er_int e2
  refine item_str (prog := c.prog) (w := c.w) ?_ (by omega) h1 (fun _ => ⟨σ, st.tok, h⟩) (hs _ _ _ _) (ht _ _)
  unfold fitsSsize
  simp; omega
open PyProof.V PySem.SeqAt
noncomputable def Rd (c : Cx) (σ : Led) (v : AV) (d : PyData) : Prop := ∀ h, Hp c σ h → ∀ v0, er v0 = v → ∃ as, Reads h v0 d as
noncomputable def dI (ns : List Int) : PyData := .list (ns.map .int)
noncomputable def dT (ns : List Int) : PyData := .tuple (ns.map .int)
noncomputable def dV (ts : List (List Int)) : PyData := .list (ts.map dT)
theorem rd_ints {ns : List Int} (m : (a, .lst (il ns)) ∈ σ) : Rd c σ (.ref a) (dI ns) := fun h H v0 e => by
  cases er_ref e
  obtain ⟨vs, hl, hi⟩ := lst_ints H m
  exact ⟨_, reads_of_ints hl hi⟩
theorem rd_tup {ns : List Int} (m : (a, .tup (il ns)) ∈ σ) : Rd c σ (.ref a) (dT ns) := fun h H v0 e => by
  cases er_ref e
  obtain ⟨vs, n, ho, ev⟩ := tup_at H m
  exact ⟨_, Reads.tuple ho rfl rfl (readsAll_of_ints (ints_are ev))⟩
noncomputable def VL (σ : Led) : List AV → List (List Int) → Prop
  | [], [] => True
  | v :: vs, t :: ts => (∃ p, v = .ref p ∧ (p, MO.tup (il t)) ∈ σ) ∧ VL σ vs ts
  | _, _ => False
theorem VL.len : ∀ {vs : List AV} {ts : List (List Int)}, VL σ vs ts → vs.length = ts.length
  | [], [], _ => rfl
  | _ :: _, _ :: _, h => by simp [VL.len h.2]
theorem readsAll_vl {h : Heap} (H : Hp c σ h) : ∀ {vs : List Value} {ts : List (List Int)}, VL σ (vs.map er) ts → ∃ as, ReadsAll h vs (ts.map dT) as
  | [], [], _ => ⟨_, .nil⟩
  | v :: vs, t :: ts, x => by
    obtain ⟨⟨p, e, m⟩, r⟩ := x
    obtain ⟨as, h1⟩ := rd_tup m h H v e
    obtain ⟨bs, h2⟩ := readsAll_vl H r
    exact ⟨_, .cons h1 h2⟩
theorem rd_vecs {vs : List AV} {ts : List (List Int)} (m : (a, .lst vs) ∈ σ) (x : VL σ vs ts) : Rd c σ (.ref a) (dV ts) := fun h H v0 e => by
  cases er_ref e
  obtain ⟨us, n, ho, ev⟩ := lst_at H m
  subst ev
  obtain ⟨as, hr⟩ := readsAll_vl H x
  exact ⟨_, Reads.list ho rfl rfl hr⟩
theorem noMix_T : ∀ ts us : List (List Int), noMixAll (ts.map dT) (us.map dT) = true
  | [], [] => by simp [noMixAll]
  | [], _ :: _ => by simp [noMixAll]
  | _ :: _, [] => by simp [noMixAll]
  | t :: r, u :: q => by simp [noMixAll, noMix, noMix_T r q, dT, PySem.W.noMix_ints]
theorem can_T : ∀ ts : List (List Int), PyData.canLayAll0 (ts.map dT) = true
  | [] => by simp [PyData.canLayAll0]
  | t :: r => by simp [PyData.canLayAll0, PyData.canLay0, can_T r, dT, PySem.W.canLayAll0_ints]
theorem depth_T : ∀ ts : List (List Int), PyData.depthAll (ts.map dT) ≤ 2
  | [] => by simp [PyData.depthAll]
  | t :: r => by
    have := depth_T r
    have h2 := PySem.W.depthAll_ints t
    simp only [List.map_cons, PyData.depthAll, dT, PyData.depth] at this ⊢
    omega
theorem shaped_T (t : List Int) : shaped (dT t) = true := by
  have h1 := PySem.W.depthAll_ints t
  have h2 : PyData.depth (dT t) ≤ 64 := by simp only [dT, PyData.depth]; omega
  show (PyData.canLay0 (dT t) && decide (PyData.depth (dT t) ≤ 64)) = true
  rw [Bool.and_eq_true]
  exact ⟨by simp only [dT, PyData.canLay0]; exact PySem.W.canLayAll0_ints t, decide_eq_true h2⟩
theorem shaped_V (ts : List (List Int)) : shaped (dV ts) = true := by
  have h1 := depth_T ts
  have h2 : PyData.depth (dV ts) ≤ 64 := by simp only [dV, PyData.depth]; omega
  show (PyData.canLay0 (dV ts) && decide (PyData.depth (dV ts) ≤ 64)) = true
  rw [Bool.and_eq_true]
  exact ⟨by simp only [dV, PyData.canLay0]; exact can_T ts, decide_eq_true h2⟩
theorem map_int_inj {a b : List Int} (h : a.map PyData.int = b.map PyData.int) : a = b := (List.map_inj_right (fun x y e => by cases e; rfl)).mp h
theorem dT_inj {a b : List Int} (h : dT a = dT b) : a = b := by unfold dT at h; exact map_int_inj (by injection h)
theorem dV_inj {a b : List (List Int)} (h : dV a = dV b) : a = b := by unfold dV at h; exact (List.map_inj_right (fun x y e => dT_inj e)).mp (by injection h)
theorem dI_inj {a b : List Int} (h : dI a = dI b) : a = b := by unfold dI at h; exact map_int_inj (by injection h)
theorem o_data {da db : PyData} {v w : AV} {p : Prop} [Decidable p] {Q : AV → Led → Prop} (hu : A.units + 64 < cLine) (ra : Rd c σ v da) (rb : Rd c σ w db) (ha : shaped da = true) (hb : shaped db = true) (hmix : noMix da db = true) (hp : da = db ↔ p) :
    (Q (.bool (decide p)) σ → Op2 c A (compareOp .Eq) er v w σ Q) ∧ (Q (.bool (!decide p)) σ → Op2 c A (compareOp .NotEq) er v w σ Q) := by
  have key : PySem.Spec.same da db = decide p := by
    by_cases q : da = db
    · rw [PyProof.Rows.same_iff.mpr q, decide_eq_true (hp.mp q)]
    · rw [decide_eq_false (fun z => q (hp.mpr z))]
      cases e : PySem.Spec.same da db with
      | false => rfl
      | true => exact absurd (PyProof.Rows.same_iff.mp e) q
  constructor
  · intro h x y e1 e2 s hs
    obtain ⟨as, r1⟩ := ra _ hs.hp x e1
    obtain ⟨bs, r2⟩ := rb _ hs.hp y e2
    exact eq_dataH_same r1 r2 ha hb hu hmix ⟨σ, hs, by rw [key]; exact h⟩
  · intro h x y e1 e2 s hs
    obtain ⟨as, r1⟩ := ra _ hs.hp x e1
    obtain ⟨bs, r2⟩ := rb _ hs.hp y e2
    exact ne_dataH_same r1 r2 ha hb hu hmix ⟨σ, hs, by rw [key]; exact h⟩
theorem o_nei {ns ms : List Int} {Q : AV → Led → Prop} (hu : A.units + 64 < cLine) (m : (a, .lst (il ns)) ∈ σ) (m' : (b, .lst (il ms)) ∈ σ) (h : Q (.bool (!decide (ns = ms))) σ) : Op2 c A (compareOp .NotEq) er (.ref a) (.ref b) σ Q :=
  (o_data hu (rd_ints m) (rd_ints m') (PySem.W.shaped_ints ns) (PySem.W.shaped_ints ms) (by simp only [dI, noMix]; exact PySem.W.noMix_ints ns ms) ⟨dI_inj, fun e => by rw [e]⟩).2 h
theorem o_nev {vs ws : List AV} {ns ms : List (List Int)} {Q : AV → Led → Prop} (hu : A.units + 64 < cLine) (m : (a, .lst vs) ∈ σ) (x : VL σ vs ns) (m' : (b, .lst ws) ∈ σ) (y : VL σ ws ms) (h : Q (.bool (!decide (ns = ms))) σ) : Op2 c A (compareOp .NotEq) er (.ref a) (.ref b) σ Q :=
  (o_data hu (rd_vecs m x) (rd_vecs m' y) (shaped_V ns) (shaped_V ms) (by simp only [dV, noMix]; exact noMix_T ns ms) ⟨dV_inj, fun e => by rw [e]⟩).2 h
theorem o_eqt {ns ms : List Int} {Q : AV → Led → Prop} (hu : A.units + 64 < cLine) (m : (a, .tup (il ns)) ∈ σ) (m' : (b, .tup (il ms)) ∈ σ) (h : Q (.bool (decide (ns = ms))) σ) : Op2 c A (compareOp .Eq) er (.ref a) (.ref b) σ Q :=
  (o_data hu (rd_tup m) (rd_tup m') (shaped_T ns) (shaped_T ms) (by simp only [dT, noMix]; exact PySem.W.noMix_ints ns ms) ⟨dT_inj, fun e => by rw [e]⟩).1 h
end
end
section
set_option maxRecDepth 20000
section
variable {c : Cx} {A : Around} {env : Env} {L : Addr} {names : List (Str × NameKind)} {σ σ' : Led} {pos : Pos} {a b x d C f r : Addr} {l l' : List AV}
theorem cel_at {h : Heap} {v : Option AV} (H : Hp c σ h) (m : (a, .cel v) ∈ σ) : ∃ u, h.IsCell a u ∧ u.map er = v := by
  obtain ⟨o, ho, u, hd, e⟩ := H.at m
  exact ⟨u, ⟨o, ho, hd⟩, e⟩
theorem e_cell {x : Str} {v : AV} {Q : AV → Led → Prop} (F : FrOk env L names) (k : KdAt names x .cell) (hc : env.cells.lookup x = some a) (m : (a, .cel (some v)) ∈ σ) (h : Q v σ) : E c A env (.Name x pos) σ Q := fun s hs => by
  obtain ⟨u, hu, e⟩ := cel_at hs.hp m
  obtain ⟨v0, rfl, e0⟩ := Option.map_eq_some_iff.mp e
  exact wpAny_Name (wpAny_loadName_cell F.kind (F.kd k) hc hu ⟨σ, hs, by rw [e0]; exact h⟩) (F.nodbg k)
theorem o_storec {x : Str} {u : Option AV} {v : AV} {Q : Unit → Led → Prop} (F : FrOk env L names) (k : KdAt names x .cell) (hc : env.cells.lookup x = some a) (U : Up a (.cel u) (.cel (some v)) σ σ') (h : Q () σ') : Op1 c A (storeName env x) id v σ Q := fun v0 hv s hs => by
  obtain ⟨w, hw, e⟩ := cel_at hs.hp U.mem
  refine wpAny_storeName_cell F.kind (F.kd k) hc hw fun h' hi hsb => ⟨σ', ?_, h⟩
  obtain ⟨o, ho, hd⟩ := hi
  exact hs.puth (hs.hp.change U hsb ho ⟨_, hd, by rw [← hv]; rfl⟩)
theorem bindL_ne {kd : Str → Option NameKind} {x : Str} : ∀ {r : List (Str × Value)} {m : Str → Option Value}, x ∉ r.map (·.1) → bindL kd r m x = m x
  | [], _, _ => rfl
  | (n, u) :: r, m, h => by
    rw [List.map_cons, List.mem_cons, not_or] at h
    unfold bindL
    rw [bindL_ne h.2]
    split
    · show (if x = n then some u else m x) = m x
      rw [if_neg h.1]
    · rfl
theorem bindC_ne {kd : Str → Option NameKind} {x : Str} : ∀ {r : List (Str × Value)} {m : Str → Option Value}, x ∉ r.map (·.1) → bindC kd r m x = m x
  | [], _, _ => rfl
  | (n, u) :: r, m, h => by
    rw [List.map_cons, List.mem_cons, not_or] at h
    unfold bindC
    rw [bindC_ne h.2]
    split
    · rfl
    · show (if x = n then some u else m x) = m x
      rw [if_neg h.1]
theorem bindL_at {kd : Str → Option NameKind} {x : Str} {v : Value} (hk : kd x = some .local) : ∀ {r : List (Str × Value)} {m : Str → Option Value}, (r.map (·.1)).Nodup → (x, v) ∈ r → bindL kd r m x = some v
  | (n, u) :: r, m, nd, h => by
    rw [List.map_cons, List.nodup_cons] at nd
    unfold bindL
    rcases List.mem_cons.mp h with e | h
    · cases e
      rw [bindL_ne nd.1, if_pos hk]
      simp
    · exact bindL_at hk nd.2 h
theorem bindC_at {kd : Str → Option NameKind} {x : Str} {v : Value} (hk : kd x ≠ some .local) : ∀ {r : List (Str × Value)} {m : Str → Option Value}, (r.map (·.1)).Nodup → (x, v) ∈ r → bindC kd r m x = some v
  | (n, u) :: r, m, nd, h => by
    rw [List.map_cons, List.nodup_cons] at nd
    unfold bindC
    rcases List.mem_cons.mp h with e | h
    · cases e
      rw [bindC_ne nd.1, if_neg hk]
      simp
    · exact bindC_at hk nd.2 h
structure FnOkC (st : Stmt) (names : List (Str × NameKind)) (np : Nat) (cf : Nat → List (Str × Addr)) : Prop where
  nms : (fdScope st).names = names
  kind : (fdScope st).kind = .function
  co : (fdScope st).isCoroutine = false
  gen : (fdScope st).isGenerator = false
  nd : (names.map (·.1)).Nodup
  dbg : ∀ p ∈ names, (p.1 == ("__debug__" : Str)) = false
  par : ∀ (name qual : Str) (doc pm : Value) (an : Option Addr) (cdv ct : Value) (vs : List Value), vs.length = np → bindArgs (fnOf name qual (fdParams st) (fdBody st) (fdScope st) .none .none doc pm an cdv ct) ⟨vs, []⟩ = pure (((names.take np).map (·.1)).zip vs)
  le : np ≤ names.length
  cells : ∀ n, cellsFrom n names [] = cf n
  look : ∀ n, ∀ p ∈ cf n, (cf n).lookup p.1 = some p.2
  pk : ∀ x ∈ names.take np, x.2 = .local ∨ (x.2 = .cell ∧ ∀ n, ((cf n).lookup x.1).isSome = true)
noncomputable def locV : List (Str × NameKind) → List AV → List (Option AV)
  | (_, .local) :: ns, v :: vs => some v :: locV ns vs
  | _ :: ns, _ :: vs => none :: locV ns vs
  | _, [] => []
  | [], _ => []
theorem locV_at : ∀ {ns : List (Str × NameKind)} {vs : List AV} {i : Nat} {v : AV}, (locV ns vs)[i]? = some (some v) → ∃ x, ns[i]? = some (x, .local) ∧ vs[i]? = some v
  | (y, .local) :: ns, u :: vs, 0, v, h => by simp [locV] at h; exact ⟨y, rfl, by simp [h]⟩
  | (y, .local) :: ns, u :: vs, i + 1, v, h => by simp only [locV] at h; exact locV_at (ns := ns) (vs := vs) (i := i) (by simpa using h)
  | [], [], _, v, h => by simp [locV] at h
  | [], _ :: _, _, v, h => by simp [locV] at h
  | _ :: _, [], _, v, h => by simp [locV] at h
  | (y, .cell) :: ns, u :: vs, 0, v, h => by simp [locV] at h
  | (y, .cell) :: ns, u :: vs, i + 1, v, h => by simp only [locV] at h; exact locV_at (ns := ns) (vs := vs) (i := i) (by simpa using h)
  | (y, .free) :: ns, u :: vs, 0, v, h => by simp [locV] at h
  | (y, .free) :: ns, u :: vs, i + 1, v, h => by simp only [locV] at h; exact locV_at (ns := ns) (vs := vs) (i := i) (by simpa using h)
  | (y, .globalImplicit) :: ns, u :: vs, 0, v, h => by simp [locV] at h
  | (y, .globalImplicit) :: ns, u :: vs, i + 1, v, h => by simp only [locV] at h; exact locV_at (ns := ns) (vs := vs) (i := i) (by simpa using h)
  | (y, .globalExplicit) :: ns, u :: vs, 0, v, h => by simp [locV] at h
  | (y, .globalExplicit) :: ns, u :: vs, i + 1, v, h => by simp only [locV] at h; exact locV_at (ns := ns) (vs := vs) (i := i) (by simpa using h)
end
end
section
set_option maxRecDepth 20000
section
variable {c : Cx} {A : Around} {env : Env} {L : Addr} {names : List (Str × NameKind)} {σ σ' : Led} {pos : Pos} {a b x d C f r : Addr} {l l' : List AV}
theorem zip_mem {ns : List Str} {vs : List Value} {i : Nat} {x : Str} {v : Value} (h1 : ns[i]? = some x) (h2 : vs[i]? = some v) : (x, v) ∈ ns.zip vs := by
  have : (ns.zip vs)[i]? = some (x, v) := by rw [List.getElem?_zip_eq_some]; exact ⟨h1, h2⟩
  exact List.mem_of_getElem? this
theorem zip_nodup : ∀ {ns : List Str} {vs : List Value}, ns.Nodup → ((ns.zip vs).map (·.1)).Nodup
  | [], _, _ => by simp
  | n :: ns, [], _ => by simp
  | n :: ns, v :: vs, hn => by
    rw [List.nodup_cons] at hn
    rw [List.zip_cons_cons, List.map_cons, List.nodup_cons]
    refine ⟨fun q => ?_, zip_nodup hn.2⟩
    obtain ⟨p, hp, e⟩ := List.mem_map.mp q
    have e' : p.1 = n := e
    exact hn.1 (e' ▸ (List.of_mem_zip (a := p.1) (b := p.2) hp).1)
theorem callC_cl {f : Addr} {st : Stmt} {names : List (Str × NameKind)} {np : Nat} {cf : Nat → List (Str × Addr)} {vs : List AV} {Q : AV → Led → Prop} (cmA : Str → Option AV) (G : Gd c) (F : FnAt c f st) (O : FnOkC st names np cf) (hl : vs.length = np) (room : A.depth < recursionLimit)
    (hcm : ∀ n, ∀ p ∈ cf n, (∃ (i : Nat) (v : AV), (names.take np)[i]? = some (p.1, NameKind.cell) ∧ vs[i]? = some v ∧ cmA p.1 = some v) ∨ (p.1 ∉ (names.take np).map (·.1) ∧ cmA p.1 = none))
    (h : ∀ (L : Addr) (env : Env), FrOk env L names → env.cells = cf (L + 1) → X c (A.deeper env) (execs (fdBody st) env) ((cf (L + 1)).map (fun p => (p.2, MO.cel (cmA p.1))) ++ (L, .ns names (locV names vs)) :: σ) (fun σ' => ∃ σ'', Sb σ'' σ' ∧ Q .none σ'') (fun _ => False) (fun _ => False) (fun v σ' => ∃ σ'', Sb σ'' σ' ∧ Q v σ'')) : CallC c A (.ref f) vs σ Q := by
  intro f0 vs0 e1 e2 s hs
  cases er_ref e1
  obtain ⟨name, qual, doc, pm, an, cdv, ct, oc, od, osl, ho, hcd⟩ := F
  have hl0 : vs0.length = np := by rw [← hl, ← e2, List.length_map]
  have hz : (names.take np).length = np := by rw [List.length_take]; exact Nat.min_eq_left O.le
  have nd' : ((names.take np).map (·.1)).Nodup := O.nd.sublist ((List.take_sublist np names).map (·.1))
  have kd : ∀ {x k}, (x, k) ∈ names.take np → names.lookup x = some k := fun hm => lookup_of_mem O.nd (List.mem_of_mem_take hm)
  refine codeAny_call_cells (fd := fnOf name qual (fdParams st) (fdBody st) (fdScope st) .none .none doc pm an cdv ct) (body := fdBody st) (binds := ((names.take np).map (·.1)).zip vs0) room (hs.hp.keep _ _ ho) rfl (G.nolimit.keeps hs.hp.keep) (hcd.keeps hs.hp.keep) rfl
    (O.par _ _ _ _ _ _ _ _ hl0) rfl ?_ (fun s₁ hI => ?_) O.co O.gen O.kind
  · intro p hp
    show (fdScope st).names.lookup p.1 = some .local ∨ ((fdScope st).names.lookup p.1 = some .cell ∧ ((cellsFrom (s.heap.objs.size + 1) (fdScope st).names []).lookup p.1).isSome = true)
    rw [O.nms, O.cells]
    obtain ⟨q, hq, e⟩ := List.mem_map.mp (List.of_mem_zip (a := p.1) (b := p.2) hp).1
    rcases O.pk q hq with k | ⟨k, k2⟩
    · left; rw [← e]; exact kd (by rw [← k]; exact hq)
    · right; rw [← e]; exact ⟨kd (by rw [← k]; exact hq), k2 _⟩
  · generalize hE : callEnvC (fnOf name qual (fdParams st) (fdBody st) (fdScope st) .none .none doc pm an cdv ct) s.heap.objs.size f = env at hI ⊢
    have eL : env.locals = s.heap.objs.size := by rw [← hE]; rfl
    have eN : env.scope.names = names := by rw [← hE]; exact O.nms
    have eC : env.cells = cf (s.heap.objs.size + 1) := by
      rw [← hE]
      show cellsFrom (s.heap.objs.size + 1) (fdScope st).names [] = _
      rw [O.nms, O.cells]
    have hF : FrOk env s.heap.objs.size names := ⟨by rw [← hE]; exact O.kind, eN, O.nd, O.dbg, eL, by rw [← hE]; rfl, by rw [← hE]; rfl⟩
    have eK : ∀ x, env.kindOf x = names.lookup x := fun x => by unfold Env.kindOf; rw [eN]
    rw [eL, eC] at hI
    obtain ⟨⟨⟨h₀, tk, rfl⟩, hns, hk, _⟩, hcell, hap, hab⟩ := hI
    obtain ⟨o, es, ep, hoL, hd, hsk, hf⟩ := hns
    have hlt : s.heap.objs.size < h₀.objs.size := Heap.lt_size hoL
    have ap : ((cf (s.heap.objs.size + 1)).map (·.2)).Nodup := by
      unfold List.Nodup
      rw [List.pairwise_map]
      exact hap
    have hH : Hp c ((cf (s.heap.objs.size + 1)).map (fun p => (p.2, MO.cel (cmA p.1))) ++ (s.heap.objs.size, .ns names (locV names vs)) :: σ) h₀ := by
      refine ⟨fun b o e => hk b o (hs.hp.keep b o e), Nat.le_trans hs.hp.sz (Nat.le_of_lt hlt), fun p hp => ?_, ?_⟩
      · rcases List.mem_append.mp hp with hp | hp
        · obtain ⟨q, hq, rfl⟩ := List.mem_map.mp hp
          obtain ⟨oq, e1, e2'⟩ := hcell q.1 q.2 (O.look _ q hq)
          refine ⟨⟨oq, e1, _, e2', ?_⟩, Nat.le_trans hs.hp.sz (Nat.le_of_lt (hab q.1 q.2 hq))⟩
          rcases hcm _ q hq with ⟨i, v, h1, h2, h3⟩ | ⟨h1, h2⟩
          · rw [← e2, List.getElem?_map, Option.map_eq_some_iff] at h2
            obtain ⟨v0, hv0, rfl⟩ := h2
            rw [bindC_at (v := v0) (by rw [eK, kd (List.mem_of_getElem? h1)]; decide) (zip_nodup nd') (zip_mem (by rw [List.getElem?_map, h1]; rfl) hv0), h3]; rfl
          · rw [bindC_ne (fun z => h1 ?_), h2]; · rfl
            obtain ⟨y, hy, e⟩ := List.mem_map.mp z
            exact e ▸ (List.of_mem_zip (a := y.1) (b := y.2) hy).1
        · rcases List.mem_cons.mp hp with rfl | hp
          · refine ⟨⟨o, hoL, es, ep, hd, hsk, fun i x k v hi hv => ?_⟩, hs.hp.sz⟩
            obtain ⟨y, h1, h2⟩ := locV_at hv
            have exy : x = y ∧ k = .local := by rw [h1] at hi; cases hi; exact ⟨rfl, rfl⟩
            obtain ⟨rfl, rfl⟩ := exy
            rw [hf]
            have hil : i < np := by rw [← hl]; exact (List.getElem?_eq_some_iff.mp h2).1
            have h1' : (names.take np)[i]? = some (x, .local) := by rw [List.getElem?_take_of_lt hil]; exact h1
            rw [← e2, List.getElem?_map, Option.map_eq_some_iff] at h2
            obtain ⟨v0, hv0, rfl⟩ := h2
            rw [bindL_at (v := v0) (by rw [eK, kd (List.mem_of_getElem? h1')]) (zip_nodup nd') (zip_mem (by rw [List.getElem?_map, h1']; rfl) hv0)]
            rfl
          · obtain ⟨⟨o', e, q⟩, l⟩ := hs.hp.has p hp
            exact ⟨⟨o', hk _ _ e, q⟩, l⟩
      · rw [List.map_append, List.map_map, List.map_cons]
        have old : ∀ z ∈ σ.map (·.1), z < s.heap.objs.size := fun z hz => by
          obtain ⟨p, hp, rfl⟩ := List.mem_map.mp hz
          obtain ⟨⟨o', e', _⟩, _⟩ := hs.hp.has p hp
          exact Heap.lt_size e'
        rw [List.nodup_append]
        refine ⟨ap, ?_, ?_⟩
        · rw [List.nodup_cons]
          exact ⟨fun q => Nat.lt_irrefl _ (old _ q), hs.hp.nd⟩
        · intro x hx y hy
          obtain ⟨q, hq, rfl⟩ := List.mem_map.mp hx
          have hgt := hab q.1 q.2 hq
          rcases List.mem_cons.mp hy with rfl | hy
          · exact Nat.ne_of_gt hgt
          · exact Nat.ne_of_gt (Nat.lt_trans (old _ hy) hgt)
    refine wpAny_mono (h s.heap.objs.size env hF eC _ ⟨hH, hs.gens, hs.os⟩) (fun f s' hq => ?_) fun _ _ x => x.elim
    obtain ⟨σ', h1, k1⟩ := hq
    have fin : ∀ v : Value, (∃ σ'', Sb σ'' σ' ∧ Q (er v) σ'') → ∃ σ', St c σ' s' ∧ Q (er v) σ' := by
      rintro v ⟨σ'', hsub, hq⟩
      exact ⟨σ'', h1.sb hsub, hq⟩
    cases f with
    | next => exact fin .none k1
    | brk => exact k1.elim
    | cont => exact k1.elim
    | ret v => exact fin v k1
end
end
section
set_option maxRecDepth 20000
section
variable {c : Cx} {A : Around} {env : Env} {L : Addr} {names : List (Str × NameKind)} {σ σ' : Led} {a b x d C f r : Addr} {l l' : List AV}
structure CpOk (env : Env) (scope : Scope) (cl : List (Str × Addr)) (nm : List (Str × NameKind)) (x : Str) : Prop where
  clos : closureFor scope env = pure cl
  cell : ∀ y ∈ scope.names, y.2 ≠ .cell
  kind : scope.kind = .function
  loc : ∀ y ∈ scope.names, y.2 = .local → scope.names.lookup y.1 = some .local
  hx : scope.names.lookup x = some .local
  nms : (relabel scope env).names = nm
  nd : (nm.map (·.1)).Nodup
  dbg : ∀ p ∈ nm, (p.1 == ("__debug__" : Str)) = false
theorem CpOk.fr {scope : Scope} {cl : List (Str × Addr)} {nm : List (Str × NameKind)} {x : Str} (O : CpOk env scope cl nm x) (F : FrOk env L names) (C : Addr) : FrOk (compEnvC scope cl C env) C nm :=
  ⟨O.kind, O.nms, O.nd, O.dbg, rfl, F.glob, F.bi⟩
theorem ns_weak {nm : List (Str × NameKind)} {vs : List (Option AV)} {k : Nat} {o : Obj} (h : (MO.ns nm vs).Ok c o) : (MO.ns nm (noneV k)).Ok c o := by
  obtain ⟨es, ep, h1, h2, _⟩ := h
  refine ⟨es, ep, h1, h2, fun i x k' v _ hv => ?_⟩
  rw [noneV_eq, List.getElem?_replicate] at hv
  split at hv <;> simp at hv
theorem up_in {P : Type} {F : P → Led → Led} (hF : ∀ p ρ, F p ρ = F p [] ++ ρ) {p : P} {ρ ρ' : Led} {a : Addr} {o o' : MO} (U : Up a o o' ρ ρ') : Up a o o' (F p ρ) (F p ρ') := by
  rw [hF, hF p ρ']; exact .skip U
theorem out_perm {P : Type} {F : P → Led → Led} (hF : ∀ p ρ, F p ρ = F p [] ++ ρ) {p : P} {ρ ρ' : Led} (h : ρ.Perm ρ') : (F p ρ).Perm (F p ρ') := by
  rw [hF, hF p ρ']; exact h.append_left _
theorem comp_core {P : Type} {I : Addr} {J : Nat → MO} {n : Nat} {val : Nat → AV} {F : P → Led → Led} {inv : Nat → P → List AV → Prop} {ρ : Led} {x : Str} {px : Pos} {elt iter : Expr} {scope : Scope} {cl : List (Str × Addr)} {nm : List (Str × NameKind)} {pos : Pos}
    {vx : AV → List (Option AV)} {src : Led → Prop} {E : Value → Shared → Prop} {RR : Value → Addr → Result → Shared → Prop} (F0 : FrOk env L names) (O : CpOk env scope cl nm x) (hh : A.handled = none)
    (item : ∀ (i : Nat) (s : Shared) (σ : Led), i < n → St c σ s → (I, J i) ∈ σ → src σ → ∀ Q : Option Value → Shared → Prop, (∀ v0 h' tk, er v0 = val i → Heap.SameBut I s.heap h' → (∃ o, h'.get? I = some o ∧ (J (i + 1)).Ok c o) → Q (some v0) { s with heap := h', toks := tk }) → wpAny c.M A (pyNext (.ref I)) Q (fun _ _ => False) s)
    (done : ∀ (s : Shared) (σ : Led), St c σ s → (I, J n) ∈ σ → src σ → ∀ Q : Option Value → Shared → Prop, (∀ h', Heap.ExtBut I s.heap h' → Q none { s with heap := h' }) → wpAny c.M A (pyNext (.ref I)) Q (fun _ _ => False) s)
    (self : ∀ (s : Shared) (σ : Led), St c σ s → (I, J 0) ∈ σ → ∀ (Q : Value → Shared → Prop) (E : Value → Shared → Prop), Q (.ref I) s → wpAny c.M A (pyIter (.ref I)) Q E s)
    (hF : ∀ p ρ, F p ρ = F p [] ++ ρ) (hsrc : ∀ p ρ', src (F p ρ) → src (F p (ρ' ++ ρ))) (hs : ∀ p, src (F p ρ)) (hne : ∀ p, F p ρ ≠ []) (hn : n ≤ 1000000)
    (hst : ∀ v, StAt nm (noneV nm.length) x v (vx v))
    (step : ∀ i p ys ρ' C, i < n → ys.length = i → inv i p ys → (∀ q ∈ ρ, q ∈ ρ') → (C, .ns nm (vx (val i))) ∈ F p ρ' → Mine.E c A (compEnvC scope cl C env) elt (F p ρ') fun y σ2 => ∃ p', inv (i + 1) p' (ys ++ [y]) ∧ Sb (F p' ρ') σ2)
    (fin : ∀ p ys D C s', ys.length = n → inv n p ys → St c ((C, .ns nm (noneV nm.length)) :: (D, .lst ys) :: F p ρ) s' → RR (.ref D) C (.ok .next) s')
    (p0 : P) (h0 : inv 0 p0 []) {s : Shared} (S : St c (F p0 ((I, J 0) :: ρ)) s) :
    wpAny c.M A (newList []) (fun acc s₃ => wpAny c.M A (newFunctionEnv scope env.globals cl [] env.qual none .none (some env)) (fun cenv s₄ =>
      codeAny c.M A (.compStart (.ListComp elt [⟨.Name x px, iter, [], 0⟩] scope pos) 0 (.ref I) acc { cenv with scope := relabel scope env }) (RR acc cenv.locals) s₄) E s₃) E s := by
  refine wpAny_newObj_type (wpAny_newFunctionEnv O.cell (by intro y hy; simp at hy) (fun h₁ hns₁ hsb₁ => ?_) O.kind)
  dsimp only at hns₁ hsb₁ ⊢
  have H1 := S.hp.new (mo := .lst []) (o := { cls := .type "list", dict := none, data := .seq ([] : List Value).toArray }) rfl ⟨#[], 0, rfl, rfl⟩
  generalize hH2 : s.heap.push { cls := .type "list", dict := none, data := .seq ([] : List Value).toArray } = H2 at hns₁ hsb₁ H1 ⊢
  generalize hD : s.heap.objs.size = D at *
  generalize hC : H2.objs.size = C at *
  have H2' : Hp c ((C, .ns nm (noneV nm.length)) :: (D, .lst []) :: F p0 ((I, J 0) :: ρ)) h₁ := by
    obtain ⟨o, es, ep, ho, hd, hk, hf⟩ := hns₁
    refine H1.add (r := C) (fun b o' e => ?_) (Nat.le_of_eq hC) ho ⟨es, ep, hd, hk, fun i x k v _ hv => ?_⟩
    · have hb : b ≠ C := by rw [← hC]; exact Nat.ne_of_lt (Heap.lt_size e)
      rw [hsb₁.2 b hb]
      exact Heap.get?_push_of_some _ e
    · rw [noneV_eq, List.getElem?_replicate] at hv
      split at hv <;> simp at hv
  have S1 : St c (F p0 ((C, .ns nm (noneV nm.length)) :: (D, .lst []) :: (I, J 0) :: ρ)) { s with heap := h₁, toks := s.toks + ([] : List (Str × Value)).length } := by
    refine St.perm (σ := (C, .ns nm (noneV nm.length)) :: (D, .lst []) :: F p0 ((I, J 0) :: ρ)) ⟨H2', S.gens, S.os⟩ ?_
    exact ((perm_in hF p0 _ _).cons _).trans (perm_in hF p0 _ _)
  have key : ∀ s : Shared, St c (F p0 ((C, .ns nm (noneV nm.length)) :: (D, .lst []) :: (I, J 0) :: ρ)) s → codeAny c.M A (.compLoop (.ListComp elt [⟨.Name x px, iter, [], 0⟩] scope pos) 0 (.ref I) (.ref D) (compEnvC scope cl C env)) (RR (.ref D) C) s := by
    intro s S1
    refine codeAny_compLoop_list (fun k s => ∃ i p ys, k = n - i ∧ i ≤ n ∧ ys.length = i ∧ inv i p ys ∧ St c (F p ((C, .ns nm (noneV nm.length)) :: (D, .lst ys) :: (I, J i) :: ρ)) s) ?_ n ⟨0, p0, [], rfl, Nat.zero_le _, rfl, h0, S1⟩ (fun _ => rfl)
    rintro k s ⟨i, p, ys, rfl, hi, hys, hinv, hS⟩
    have hmem : (I, J i) ∈ F p ((C, .ns nm (noneV nm.length)) :: (D, .lst ys) :: (I, J i) :: ρ) := by rw [hF]; simp
    have hsr : src (F p ((C, .ns nm (noneV nm.length)) :: (D, .lst ys) :: (I, J i) :: ρ)) := hsrc p [(C, .ns nm (noneV nm.length)), (D, .lst ys), (I, J i)] (hs p)
    rcases Nat.lt_or_eq_of_le hi with hlt | rfl
    · refine wpAny_mono (item i s _ hlt hS hmem hsr _ fun v0 h' tk hv hsb ⟨o, ho, hok⟩ => ?_) (fun _ _ x => x) (fun _ _ x => x.elim)
      have hS' : St c (F p ((C, .ns nm (noneV nm.length)) :: (D, .lst ys) :: (I, J (i + 1)) :: ρ)) { s with heap := h', toks := tk } := hS.put (hS.hp.change (up_in hF (.there (.there .here))) hsb ho hok)
      have Fc := O.fr F0 C
      refine wpAny_mono (o_name (pos := px) (o_store Fc (up_in hF .here) (hst (val i)) (Q := fun _ σ2 => σ2 = F p ((C, .ns nm (vx (val i))) :: (D, .lst ys) :: (I, J (i + 1)) :: ρ)) rfl) v0 hv _ hS') (fun _ s2 ⟨σ1, h1, k1⟩ => ?_) (fun _ _ x => x.elim)
      subst k1
      have hm : (C, MO.ns nm (vx (val i))) ∈ F p ((C, .ns nm (vx (val i))) :: (D, .lst ys) :: (I, J (i + 1)) :: ρ) := by rw [hF]; simp
      refine wpAny_mono (step i p ys _ C hlt hys hinv (fun q hq => .tail _ (.tail _ (.tail _ hq))) hm s2 h1) (fun y0 s3 ⟨σ2, h2, p', k2, hsub⟩ => ?_) (fun _ _ x => x.elim)
      have h3 := h2.sb hsub
      have h4 : St c (F p' ((C, .ns nm (noneV nm.length)) :: (D, .lst ys) :: (I, J (i + 1)) :: ρ)) s3 := ⟨h3.hp.weaken (up_in hF .here) fun o h => ns_weak h, h3.gens, h3.os⟩
      refine wpAny_mono (b_append (v := er y0) (Q := fun _ σ => σ = F p' ((C, .ns nm (noneV nm.length)) :: (D, .lst (ys ++ [er y0])) :: (I, J (i + 1)) :: ρ)) (up_in hF (.there .here)) (by omega) rfl _ [.ref D, y0] rfl rfl s3 h4) (fun _ s5 ⟨σ5, h5, k5⟩ => ?_) (fun _ _ x => x.elim)
      subst k5
      exact ⟨n - (i + 1), by omega, i + 1, p', ys ++ [er y0], rfl, hlt, by simp [hys], k2, h5⟩
    · refine wpAny_mono (done s _ hS hmem hsr _ fun h' hx => ?_) (fun _ _ x => x) (fun _ _ x => x.elim)
      refine fin p ys D C _ hys hinv ?_
      have hS2 : St c ((I, J i) :: (C, .ns nm (noneV nm.length)) :: (D, .lst ys) :: F p ρ) s := by
        refine hS.perm ?_
        refine ((perm_in hF p ((C, .ns nm (noneV nm.length)) :: (D, .lst ys) :: ρ) (I, J i)).trans ?_).symm.trans ?_
        · refine out_perm hF ?_
          exact (List.perm_middle (l₁ := [(C, MO.ns nm (noneV nm.length)), (D, MO.lst ys)])).symm
        · refine (List.Perm.symm ?_).cons _
          exact ((perm_in hF p _ _).cons _).trans (perm_in hF p _ _)
      have nd := hS2.hp.nd
      rw [List.map_cons, List.nodup_cons] at nd
      refine hS2.puth (hS2.hp.ext hx (by simp) (fun q hq => ⟨.tail _ hq, fun e => nd.1 (e ▸ List.mem_map_of_mem (f := (·.1)) hq)⟩) nd.2 (List.cons_ne_nil _ _))
  refine codeAny_compStart_list (key _ S1) (self _ _ S1 ?_ _ _ (key _ S1))
  rw [hF]; simp
noncomputable def Co (c : Cx) (A : Around) (env : Env) (x : Str) (elt : Expr) (scope : Scope) (cl : List (Str × Addr)) (v : AV) (σ : Led) (K : Addr → Addr → Led → Prop) : Prop :=
  ∀ v0, er v0 = v → ∀ s, St c σ s → ∀ (iter : Expr) (px pos : Pos) (E : Value → Shared → Prop) (RR : Value → Addr → Result → Shared → Prop),
    (∀ D C s' σ', St c σ' s' → K D C σ' → RR (.ref D) C (.ok .next) s') →
    wpAny c.M A (pyIter v0) (fun it s₂ => wpAny c.M A (newList []) (fun acc s₃ => wpAny c.M A (newFunctionEnv scope env.globals cl [] env.qual none .none (some env)) (fun cenv s₄ =>
      codeAny c.M A (.compStart (.ListComp elt [⟨.Name x px, iter, [], 0⟩] scope pos) 0 it acc { cenv with scope := relabel scope env }) (RR acc cenv.locals) s₄) E s₃) E s₂) E s
theorem co_list {P : Type} (F : P → Led → Led) (inv : Nat → P → List AV → Prop) (ρ : Led) (p0 : P) {x : Str} {elt : Expr} {scope : Scope} {cl : List (Str × Addr)} {nm : List (Str × NameKind)} {vx : AV → List (Option AV)} {K : Addr → Addr → Led → Prop}
    (F0 : FrOk env L names) (O : CpOk env scope cl nm x) (hh : A.handled = none) (hF : ∀ p ρ, F p ρ = F p [] ++ ρ) (hsb : Sb (F p0 ρ) σ) (hm : ∀ p, (a, .lst l) ∈ F p ρ) (h0 : inv 0 p0 [])
    (hst : ∀ v, StAt nm (noneV nm.length) x v (vx v)) (hn : l.length ≤ 1000000)
    (step : ∀ i v p ys ρ' C, l[i]? = some v → ys.length = i → inv i p ys → (∀ q ∈ ρ, q ∈ ρ') → (C, .ns nm (vx v)) ∈ F p ρ' → FrOk (compEnvC scope cl C env) C nm → E c A (compEnvC scope cl C env) elt (F p ρ') fun y σ2 => ∃ p', inv (i + 1) p' (ys ++ [y]) ∧ Sb (F p' ρ') σ2)
    (fin : ∀ p ys D C, ys.length = l.length → inv l.length p ys → K D C ((C, .ns nm (noneV nm.length)) :: (D, .lst ys) :: F p ρ)) (hne : ∀ p, F p ρ ≠ [] := by intro _; exact List.cons_ne_nil _ _) : Co c A env x elt scope cl (.ref a) σ K := by
  intro v0 e s hs iter px pos E RR hR
  cases er_ref e
  have hS := hs.sb hsb
  obtain ⟨vs, n, ho, ev⟩ := lst_at hS.hp (hm p0)
  refine wpAny_pyIter_list (lst_is ho) ?_
  refine comp_core (J := fun i => .lit a i) (n := l.length) (val := fun i => l.getD i .none) (F := F) (inv := inv) (ρ := ρ) (src := fun σ => (a, MO.lst l) ∈ σ) F0 O hh ?_ ?_ ?_ hF (fun p ρ' h => mem_tail hF ρ' h) hm hne hn hst ?_ ?_ p0 h0 (s := { s with heap := _ }) ?_
  · intro i s σ hi S m hsrc Q k
    obtain ⟨o, ho, hc, hd⟩ := S.hp.at m
    obtain ⟨vs, n, hol, ev⟩ := lst_at S.hp hsrc
    have hv : l[i]? = some (l.getD i .none) := by rw [List.getD_eq_getElem?_getD, List.getElem?_eq_getElem hi]; rfl
    obtain ⟨x, hx, ex⟩ := arr_get ev hv
    refine wpAny_pyNext_list_item ⟨o, ho, hc, hd⟩ (lst_is hol) hx fun h' hit hsb => ?_
    obtain ⟨o', ho', hc', hd'⟩ := hit
    exact k x h' s.toks ex hsb ⟨o', ho', hc', hd'⟩
  · intro s σ S m hsrc Q k
    obtain ⟨o, ho, hc, hd⟩ := S.hp.at m
    obtain ⟨vs, n, hol, ev⟩ := lst_at S.hp hsrc
    exact wpAny_pyNext_list_end hh ⟨o, ho, hc, hd⟩ (lst_is hol) (by rw [Array.getElem?_eq_none_iff, arr_size ev]; exact Nat.le_refl _) fun h' hx => k h' hx
  · intro s σ S m Q E h
    obtain ⟨o, ho, hc, hd⟩ := S.hp.at m
    exact wpAny_pyIter_listiter ⟨o, ho, hc, hd⟩ h
  · intro i p ys ρ' C hi hys hinv hρ hmm
    exact step i _ p ys ρ' C (by rw [List.getD_eq_getElem?_getD, List.getElem?_eq_getElem hi]; rfl) hys hinv hρ hmm (O.fr F0 C)
  · intro p ys D C s' hys hinv hS'
    exact hR D C s' _ hS' (fin p ys D C hys hinv)
  · refine St.perm ?_ (perm_in hF p0 ρ _)
    exact hS.puth (hS.hp.new (mo := .lit a 0) rfl ⟨rfl, rfl⟩)
theorem co_rng {P : Type} {x0 y0 : Int} (F : P → Led → Led) (inv : Nat → P → List AV → Prop) (ρ : Led) (p0 : P) {x : Str} {elt : Expr} {scope : Scope} {cl : List (Str × Addr)} {nm : List (Str × NameKind)} {vx : AV → List (Option AV)} {K : Addr → Addr → Led → Prop}
    (F0 : FrOk env L names) (O : CpOk env scope cl nm x) (hh : A.handled = none) (hb : -1000000 ≤ x0 ∧ x0 < 1000000 ∧ -1000000 ≤ y0 ∧ y0 < 1000000 ∧ y0 - x0 ≤ 1000000) (hF : ∀ p ρ, F p ρ = F p [] ++ ρ) (hsb : Sb ((a, .rng x0 y0) :: F p0 ρ) σ) (h0 : inv 0 p0 [])
    (hst : ∀ v, StAt nm (noneV nm.length) x v (vx v))
    (step : ∀ (i : Nat) p ys ρ' C, x0 + i < y0 → ys.length = i → inv i p ys → (∀ q ∈ ρ, q ∈ ρ') → (C, .ns nm (vx (.int (x0 + i)))) ∈ F p ρ' → FrOk (compEnvC scope cl C env) C nm → E c A (compEnvC scope cl C env) elt (F p ρ') fun y σ2 => ∃ p', inv (i + 1) p' (ys ++ [y]) ∧ Sb (F p' ρ') σ2)
    (fin : ∀ p ys D C, ys.length = (y0 - x0).toNat → inv (y0 - x0).toNat p ys → K D C ((C, .ns nm (noneV nm.length)) :: (D, .lst ys) :: F p ρ)) (hne : ∀ p, F p ρ ≠ [] := by intro _; exact List.cons_ne_nil _ _) : Co c A env x elt scope cl (.ref a) σ K := by
  intro v0 e s hs iter px pos E RR hR
  cases er_ref e
  have hS0 := hs.sb hsb
  obtain ⟨o, ho, t, u, v, rfl⟩ := hS0.hp.at (.head _)
  have hS : St c (F p0 ρ) s := ⟨hS0.hp.drop, hS0.gens, hS0.os⟩
  refine wpAny_pyIter_range (a := x0) (b := y0) (c := 1) (t := t) (u := u) (v := v) ho (small_one (by omega) (by omega) (by omega) (by omega)) ?_
  rw [rangeSize_nat]
  refine comp_core (J := fun i => .rit (x0 + i) ((y0 - x0).toNat - i)) (n := (y0 - x0).toNat) (val := fun i => .int (x0 + i)) (F := F) (inv := inv) (ρ := ρ) (src := fun _ => True) F0 O hh ?_ ?_ ?_ hF (fun _ _ _ => trivial) (fun _ => trivial) hne (by omega) hst ?_ ?_ p0 h0 (s := { s with heap := _ }) ?_
  · intro i s σ hi S m _ Q k
    obtain ⟨o, ho, rfl⟩ := S.hp.at m
    refine wpAny_pyNext_range_item ho (by omega) fun h' hit hsb => ?_
    refine k _ h' _ rfl hsb ⟨_, hit, ?_⟩
    show _ = _
    rw [show x0 + (i : Int) + 1 = x0 + ((i + 1 : Nat) : Int) by omega, show (((y0 - x0).toNat : Nat) : Int) - (i : Int) - 1 = ((y0 - x0).toNat : Int) - ((i + 1 : Nat) : Int) by omega]
  · intro s σ S m _ Q k
    obtain ⟨o, ho, rfl⟩ := S.hp.at m
    exact wpAny_pyNext_range_end hh ho (by omega) fun h' hx => k h' hx
  · intro s σ S m Q E h
    obtain ⟨o, ho, rfl⟩ := S.hp.at m
    exact wpAny_pyIter_rangeiter ho h
  · intro i p ys ρ' C hi hys hinv hρ hmm
    exact step i p ys ρ' C (by omega) hys hinv hρ hmm (O.fr F0 C)
  · intro p ys D C s' hys hinv hS'
    exact hR D C s' _ hS' (fin p ys D C hys hinv)
  · refine St.perm ?_ (perm_in hF p0 ρ _)
    exact hS.puth (hS.hp.new (mo := .rit (x0 + (0 : Nat)) ((y0 - x0).toNat - (0 : Nat))) rfl (by show _ = _; simp))
theorem St.letGo {C : Addr} {mo : MO} {s : Shared} {h' : Heap} (S : St c ((C, mo) :: σ) s) (hs : Heap.SameBut C s.heap h') (hne : σ ≠ []) : St c σ { s with heap := h' } := by
  have nd := S.hp.nd
  rw [List.map_cons, List.nodup_cons] at nd
  exact S.puth (S.hp.ext hs.extBut (by simp) (fun q hq => ⟨.tail _ hq, fun e => nd.1 (e ▸ List.mem_map_of_mem (f := (·.1)) hq)⟩) nd.2 hne)
theorem e_comp {iter elt : Expr} {x : Str} {px : Pos} {scope : Scope} {pos : Pos} {cl : List (Str × Addr)} {nm : List (Str × NameKind)} {Q : AV → Led → Prop} (O : CpOk env scope cl nm x)
    (h : E c A env iter σ fun v σ1 => Co c A env x elt scope cl v σ1 fun D C σ2 => ∃ (vs : List (Option AV)) (σ3 : MO × Led), σ2 = (C, .ns nm vs) :: (D, σ3.1) :: σ3.2 ∧ Q (.ref D) ((D, σ3.1) :: σ3.2))
    (hs : ∀ x, foldedSetIterable iter env x = pure x := by intro _; with_unfolding_all rfl) : E c A env (.ListComp elt [⟨.Name x px, iter, [], 0⟩] scope pos) σ Q := fun s hst => by
  rw [eval_ListComp]
  refine wpAny_comprehension_free (use := none) rfl hs O.clos O.kind O.loc (wpAny_mono (h s hst) (fun xv s₁ ⟨σ1, h1, k1⟩ => ?_) fun _ _ e => e.elim)
  refine k1 xv rfl s₁ h1 _ _ _ _ _ fun D C s' σ2 S ⟨vs, ⟨mo, σ3⟩, e, hq⟩ => ?_
  subst e
  obtain ⟨m, N, _⟩ := ns_of S.hp (.head _)
  exact ⟨m, N, fun h' hsb => ⟨_, S.letGo hsb (List.cons_ne_nil _ _), hq⟩⟩
theorem x_comp {iter elt : Expr} {x y : Str} {px py : Pos} {scope : Scope} {pos spos : Pos} {cl : List (Str × Addr)} {nm : List (Str × NameKind)} {N B C' : Led → Prop} {R : AV → Led → Prop} (O : CpOk env scope cl nm x)
    (hsw : swapsWith (.ListComp elt [⟨.Name x px, iter, [], 0⟩] scope pos) (some (.Name y py)) spos.line env = pure true)
    (h : E c A env iter σ fun v σ1 => Co c A env x elt scope cl v σ1 fun D C σ2 => Op1 c A (storeName env y) id (.ref D) σ2 fun _ σ3 => ∃ (vs : List (Option AV)) (σ4 : MO × Led), σ3 = (C, .ns nm vs) :: (D, σ4.1) :: σ4.2 ∧ N ((D, σ4.1) :: σ4.2))
    (hs : ∀ x, foldedSetIterable iter env x = pure x := by intro _; with_unfolding_all rfl) : X c A (exec (.Assign [.Name y py] (.ListComp elt [⟨.Name x px, iter, [], 0⟩] scope pos) spos) env) σ N B C' R := fun s hst => by
  rw [exec_Assign_Name_used _ _ _ _ hsw]
  refine wpAny_bind (wpAny_standAt (wpAny_bind ?_))
  show wpAny _ A (do let _ ← comprehension (.ListComp elt [⟨.Name x px, iter, [], 0⟩] scope pos) scope env _ (newList []) false (eval iter env) (some (assign (.Name y py) env))) _ _ s
  refine wpAny_bind (wpAny_mono (wpAny_comprehension_free (use := some (assign (.Name y py) env)) (Q := fun _ s' => ∃ σ', St c σ' s' ∧ N σ') rfl hs O.clos O.kind O.loc
    (wpAny_mono (h s hst) (fun xv s₁ ⟨σ1, h1, k1⟩ => ?_) fun _ _ e => e.elim)) (fun _ s' ⟨σ', q1, q2⟩ => wpAny_pure (wpAny_pure ⟨σ', q1, q2⟩)) fun _ _ e => e)
  refine k1 xv rfl s₁ h1 _ _ _ _ _ fun D C s' σ2 S k => ?_
  refine wpAny_mono (o_name (pos := py) k (.ref D) rfl s' S) (fun _ s'' ⟨σ3, S3, vs, ⟨mo, σ4⟩, e, hq⟩ => ?_) (fun _ _ x => x.elim)
  dsimp only at e hq
  subst e
  obtain ⟨m, N', _⟩ := ns_of S3.hp (.head _)
  exact ⟨m, N', fun h' hsb => ⟨_, S3.letGo hsb (List.cons_ne_nil _ _), hq⟩⟩
end
end
section
set_option maxRecDepth 20000
noncomputable def PB : List Stmt := PySem.Challenge.pw_nn0334_01.main.body
noncomputable def sAt : List Stmt → Nat → Stmt
  | [], _ => .Pass ⟨0, 0, 0, 0⟩
  | s :: _, 0 => s
  | _ :: r, n + 1 => sAt r n
noncomputable def cdBody : Stmt → List Stmt
  | .ClassDef (body := b) .. => b
  | _ => []
noncomputable abbrev st (i : Nat) : Stmt := sAt PB i
noncomputable abbrev ms (i j : Nat) : Stmt := sAt (cdBody (sAt PB i)) j
noncomputable abbrev lc (x : String) : Str × NameKind := (Str.ofString x, .local)
noncomputable abbrev gl (x : String) : Str × NameKind := (Str.ofString x, .globalImplicit)
noncomputable abbrev ce (x : String) : Str × NameKind := (Str.ofString x, .cell)
noncomputable abbrev nm_mask : List (Str × NameKind) := [lc "w"]
theorem ok_mask : FnOk (st 5) nm_mask 1 where
  nms := by rfl
  kind := by rfl
  co := by rfl
  gen := by rfl
  cell := by decide
  nd := by decide
  dbg := by decide
  par := by intro name qual doc pm an cdv ct vs h; obtain ⟨_, vs, rfl, k1⟩ := lenS h; obtain rfl := len0 k1; rfl
  loc := by decide
  le := by decide
noncomputable abbrev nm_all_x : List (Str × NameKind) := [lc "w", lc "full", gl "mask"]
theorem ok_all_x : FnOk (st 8) nm_all_x 1 where
  nms := by rfl
  kind := by rfl
  co := by rfl
  gen := by rfl
  cell := by decide
  nd := by decide
  dbg := by decide
  par := by intro name qual doc pm an cdv ct vs h; obtain ⟨_, vs, rfl, k1⟩ := lenS h; obtain rfl := len0 k1; rfl
  loc := by decide
  le := by decide
noncomputable abbrev nm_to_int : List (Str × NameKind) := [lc "v", lc "signed", lc "w", lc "a", lc "b"]
theorem ok_to_int : FnOk (st 12) nm_to_int 2 where
  nms := by rfl
  kind := by rfl
  co := by rfl
  gen := by rfl
  cell := by decide
  nd := by decide
  dbg := by decide
  par := by intro name qual doc pm an cdv ct vs h; obtain ⟨_, vs, rfl, k1⟩ := lenS h; obtain ⟨_, vs, rfl, k2⟩ := lenS k1; obtain rfl := len0 k2; rfl
  loc := by decide
  le := by decide
noncomputable abbrev nm_slice_vec : List (Str × NameKind) := [lc "v", lc "lo", lc "w", lc "first", lc "last", lc "inner", lc "shift", lc "outside", lc "a", lc "b", gl "max", gl "min", gl "all_x", gl "mask"]
theorem ok_slice_vec : FnOk (st 14) nm_slice_vec 3 where
  nms := by rfl
  kind := by rfl
  co := by rfl
  gen := by rfl
  cell := by decide
  nd := by decide
  dbg := by decide
  par := by intro name qual doc pm an cdv ct vs h; obtain ⟨_, vs, rfl, k1⟩ := lenS h; obtain ⟨_, vs, rfl, k2⟩ := lenS k1; obtain ⟨_, vs, rfl, k3⟩ := lenS k2; obtain rfl := len0 k3; rfl
  loc := by decide
  le := by decide
noncomputable abbrev nm_put_slice : List (Str × NameKind) := [lc "v", lc "lo", lc "part", lc "first", lc "last", lc "inner", lc "skip", lc "keep", lc "a", lc "b", gl "max", gl "min", gl "mask"]
theorem ok_put_slice : FnOk (st 15) nm_put_slice 3 where
  nms := by rfl
  kind := by rfl
  co := by rfl
  gen := by rfl
  cell := by decide
  nd := by decide
  dbg := by decide
  par := by intro name qual doc pm an cdv ct vs h; obtain ⟨_, vs, rfl, k1⟩ := lenS h; obtain ⟨_, vs, rfl, k2⟩ := lenS k1; obtain ⟨_, vs, rfl, k3⟩ := lenS k2; obtain rfl := len0 k3; rfl
  loc := by decide
  le := by decide
noncomputable abbrev nm_whole_of : List (Str × NameKind) := [lc "e", lc "signed", lc "ctx", gl "to_int", gl "evaluate"]
theorem ok_whole_of : FnOk (st 65) nm_whole_of 3 where
  nms := by rfl
  kind := by rfl
  co := by rfl
  gen := by rfl
  cell := by decide
  nd := by decide
  dbg := by decide
  par := by intro name qual doc pm an cdv ct vs h; obtain ⟨_, vs, rfl, k1⟩ := lenS h; obtain ⟨_, vs, rfl, k2⟩ := lenS k1; obtain ⟨_, vs, rfl, k3⟩ := lenS k2; obtain rfl := len0 k3; rfl
  loc := by decide
  le := by decide
noncomputable abbrev nm_evaluate : List (Str × NameKind) := [lc "e", ce "ctx", lc "tag", gl "binary", gl "evaluate", gl "unary", gl "extend", gl "slice_vec", gl "picked", gl "memory_word", gl "conditional", gl "concat", gl "power", gl "system_value", gl "DesignError"]
noncomputable def cf_evaluate (n : Nat) : List (Str × Addr) := [(Str.ofString "ctx", n)]
theorem ok_evaluate : FnOkC (st 71) nm_evaluate 2 cf_evaluate where
  nms := by rfl
  kind := by rfl
  co := by rfl
  gen := by rfl
  nd := by decide
  dbg := by decide
  par := by intro name qual doc pm an cdv ct vs h; obtain ⟨_, vs, rfl, k1⟩ := lenS h; obtain ⟨_, vs, rfl, k2⟩ := lenS k1; obtain rfl := len0 k2; rfl
  le := by decide
  cells := by intro n; rfl
  look := by intro n p hp; simp only [cf_evaluate, List.mem_cons, List.not_mem_nil, or_false] at hp; rcases hp with rfl <;> rfl
  pk := by simp only [nm_evaluate, List.take, List.mem_cons, List.not_mem_nil, or_false]; rintro x (rfl | rfl) <;> first | exact .inl rfl | exact .inr ⟨rfl, fun _ => rfl⟩
noncomputable abbrev nm_locate : List (Str × NameKind) := [lc "where", lc "ctx", lc "index", gl "whole_of"]
theorem ok_locate : FnOk (st 72) nm_locate 2 where
  nms := by rfl
  kind := by rfl
  co := by rfl
  gen := by rfl
  cell := by decide
  nd := by decide
  dbg := by decide
  par := by intro name qual doc pm an cdv ct vs h; obtain ⟨_, vs, rfl, k1⟩ := lenS h; obtain ⟨_, vs, rfl, k2⟩ := lenS k1; obtain rfl := len0 k2; rfl
  loc := by decide
  le := by decide
noncomputable abbrev nm_holder_width : List (Str × NameKind) := [lc "part", lc "ctx"]
theorem ok_holder_width : FnOk (st 73) nm_holder_width 2 where
  nms := by rfl
  kind := by rfl
  co := by rfl
  gen := by rfl
  cell := by decide
  nd := by decide
  dbg := by decide
  par := by intro name qual doc pm an cdv ct vs h; obtain ⟨_, vs, rfl, k1⟩ := lenS h; obtain ⟨_, vs, rfl, k2⟩ := lenS k1; obtain rfl := len0 k2; rfl
  loc := by decide
  le := by decide
noncomputable abbrev nm_resolve_target : List (Str × NameKind) := [lc "lv", lc "ctx", lc "rows", lc "take", lc "part", lc "kind", lc "w", lc "ref", lc "word", lc "where", lc "place", lc "index", lc "lo", gl "whole_of", gl "locate", gl "holder_width"]
theorem ok_resolve_target : FnOk (st 74) nm_resolve_target 2 where
  nms := by rfl
  kind := by rfl
  co := by rfl
  gen := by rfl
  cell := by decide
  nd := by decide
  dbg := by decide
  par := by intro name qual doc pm an cdv ct vs h; obtain ⟨_, vs, rfl, k1⟩ := lenS h; obtain ⟨_, vs, rfl, k2⟩ := lenS k1; obtain rfl := len0 k2; rfl
  loc := by decide
  le := by decide
noncomputable abbrev nm_store_rows : List (Str × NameKind) := [lc "rows", lc "value", lc "ctx", lc "changed", lc "kind", lc "ref", lc "place", lc "lo", lc "w", lc "take", lc "piece", gl "slice_vec", gl "put_slice", gl "sorted"]
theorem ok_store_rows : FnOk (st 75) nm_store_rows 3 where
  nms := by rfl
  kind := by rfl
  co := by rfl
  gen := by rfl
  cell := by decide
  nd := by decide
  dbg := by decide
  par := by intro name qual doc pm an cdv ct vs h; obtain ⟨_, vs, rfl, k1⟩ := lenS h; obtain ⟨_, vs, rfl, k2⟩ := lenS k1; obtain ⟨_, vs, rfl, k3⟩ := lenS k2; obtain rfl := len0 k3; rfl
  loc := by decide
  le := by decide
noncomputable abbrev nm_net_kinds : List (Str × NameKind) := []
theorem ok_net_kinds : FnOk (st 77) nm_net_kinds 0 where
  nms := by rfl
  kind := by rfl
  co := by rfl
  gen := by rfl
  cell := by decide
  nd := by decide
  dbg := by decide
  par := by intro name qual doc pm an cdv ct vs h; obtain rfl := len0 h; rfl
  loc := by decide
  le := by decide
noncomputable abbrev nm__law_row : List (Str × NameKind) := [lc "script", lc "row", lc "cell", lc "number", lc "turn", gl "range"]
theorem ok__law_row : FnOk (st 84) nm__law_row 1 where
  nms := by rfl
  kind := by rfl
  co := by rfl
  gen := by rfl
  cell := by decide
  nd := by decide
  dbg := by decide
  par := by intro name qual doc pm an cdv ct vs h; obtain ⟨_, vs, rfl, k1⟩ := lenS h; obtain rfl := len0 k1; rfl
  loc := by decide
  le := by decide
noncomputable abbrev nm__law_next : List (Str × NameKind) := [lc "row"]
theorem ok__law_next : FnOk (st 85) nm__law_next 1 where
  nms := by rfl
  kind := by rfl
  co := by rfl
  gen := by rfl
  cell := by decide
  nd := by decide
  dbg := by decide
  par := by intro name qual doc pm an cdv ct vs h; obtain ⟨_, vs, rfl, k1⟩ := lenS h; obtain rfl := len0 k1; rfl
  loc := by decide
  le := by decide
noncomputable abbrev nm__law_bits : List (Str × NameKind) := [lc "row", lc "wide", lc "bits", lc "turn", lc "number", lc "step", gl "range", gl "_law_next"]
theorem ok__law_bits : FnOk (st 86) nm__law_bits 2 where
  nms := by rfl
  kind := by rfl
  co := by rfl
  gen := by rfl
  cell := by decide
  nd := by decide
  dbg := by decide
  par := by intro name qual doc pm an cdv ct vs h; obtain ⟨_, vs, rfl, k1⟩ := lenS h; obtain ⟨_, vs, rfl, k2⟩ := lenS k1; obtain rfl := len0 k2; rfl
  loc := by decide
  le := by decide
noncomputable abbrev nm__law_made : List (Str × NameKind) := [lc "bits", lc "low", lc "high", lc "spot", gl "range", gl "len"]
theorem ok__law_made : FnOk (st 87) nm__law_made 1 where
  nms := by rfl
  kind := by rfl
  co := by rfl
  gen := by rfl
  cell := by decide
  nd := by decide
  dbg := by decide
  par := by intro name qual doc pm an cdv ct vs h; obtain ⟨_, vs, rfl, k1⟩ := lenS h; obtain rfl := len0 k1; rfl
  loc := by decide
  le := by decide
noncomputable abbrev nm__law_const : List (Str × NameKind) := [lc "bits", lc "wide", lc "low", lc "high", gl "_law_made"]
theorem ok__law_const : FnOk (st 88) nm__law_const 1 where
  nms := by rfl
  kind := by rfl
  co := by rfl
  gen := by rfl
  cell := by decide
  nd := by decide
  dbg := by decide
  par := by intro name qual doc pm an cdv ct vs h; obtain ⟨_, vs, rfl, k1⟩ := lenS h; obtain rfl := len0 k1; rfl
  loc := by decide
  le := by decide
noncomputable abbrev nm__law_whole : List (Str × NameKind) := [lc "bits", lc "signed", lc "figure", lc "spot", gl "range", gl "len"]
theorem ok__law_whole : FnOk (st 89) nm__law_whole 2 where
  nms := by rfl
  kind := by rfl
  co := by rfl
  gen := by rfl
  cell := by decide
  nd := by decide
  dbg := by decide
  par := by intro name qual doc pm an cdv ct vs h; obtain ⟨_, vs, rfl, k1⟩ := lenS h; obtain ⟨_, vs, rfl, k2⟩ := lenS k1; obtain rfl := len0 k2; rfl
  loc := by decide
  le := by decide
noncomputable abbrev nm__law_amount : List (Str × NameKind) := [lc "row", lc "bits", gl "_law_bits", gl "_law_next"]
theorem ok__law_amount : FnOk (st 90) nm__law_amount 1 where
  nms := by rfl
  kind := by rfl
  co := by rfl
  gen := by rfl
  cell := by decide
  nd := by decide
  dbg := by decide
  par := by intro name qual doc pm an cdv ct vs h; obtain ⟨_, vs, rfl, k1⟩ := lenS h; obtain rfl := len0 k1; rfl
  loc := by decide
  le := by decide
noncomputable abbrev nm__law_part : List (Str × NameKind) := [lc "row", lc "widths", lc "pick", lc "kind", lc "ref", lc "total", lc "word", lc "draw", lc "wide", lc "base", gl "_law_next", gl "_law_amount"]
theorem ok__law_part : FnOk (st 91) nm__law_part 2 where
  nms := by rfl
  kind := by rfl
  co := by rfl
  gen := by rfl
  cell := by decide
  nd := by decide
  dbg := by decide
  par := by intro name qual doc pm an cdv ct vs h; obtain ⟨_, vs, rfl, k1⟩ := lenS h; obtain ⟨_, vs, rfl, k2⟩ := lenS k1; obtain rfl := len0 k2; rfl
  loc := by decide
  le := by decide
noncomputable abbrev nm__law_source : List (Str × NameKind) := [lc "part", lc "kind", lc "wide", lc "ref", lc "word", lc "where", lc "spot", gl "_law_const"]
theorem ok__law_source : FnOk (st 92) nm__law_source 1 where
  nms := by rfl
  kind := by rfl
  co := by rfl
  gen := by rfl
  cell := by decide
  nd := by decide
  dbg := by decide
  par := by intro name qual doc pm an cdv ct vs h; obtain ⟨_, vs, rfl, k1⟩ := lenS h; obtain rfl := len0 k1; rfl
  loc := by decide
  le := by decide
noncomputable abbrev nm__law_low : List (Str × NameKind) := [lc "where", lc "index", gl "_law_whole"]
theorem ok__law_low : FnOk (st 93) nm__law_low 1 where
  nms := by rfl
  kind := by rfl
  co := by rfl
  gen := by rfl
  cell := by decide
  nd := by decide
  dbg := by decide
  par := by intro name qual doc pm an cdv ct vs h; obtain ⟨_, vs, rfl, k1⟩ := lenS h; obtain rfl := len0 k1; rfl
  loc := by decide
  le := by decide
noncomputable abbrev nm__law_write : List (Str × NameKind) := [lc "parts", lc "value", lc "held", lc "words", lc "slots", lc "changed", lc "rest", lc "part", lc "kind", lc "wide", lc "ref", lc "word", lc "where", lc "piece", lc "bits", lc "index", lc "low", lc "before", lc "step", gl "list", gl "len", gl "_law_whole", gl "_law_low", gl "range", gl "sorted"]
theorem ok__law_write : FnOk (st 94) nm__law_write 5 where
  nms := by rfl
  kind := by rfl
  co := by rfl
  gen := by rfl
  cell := by decide
  nd := by decide
  dbg := by decide
  par := by intro name qual doc pm an cdv ct vs h; obtain ⟨_, vs, rfl, k1⟩ := lenS h; obtain ⟨_, vs, rfl, k2⟩ := lenS k1; obtain ⟨_, vs, rfl, k3⟩ := lenS k2; obtain ⟨_, vs, rfl, k4⟩ := lenS k3; obtain ⟨_, vs, rfl, k5⟩ := lenS k4; obtain rfl := len0 k5; rfl
  loc := by decide
  le := by decide
noncomputable abbrev nm_Signal_init : List (Str × NameKind) := [lc "self", lc "key", lc "path", lc "kind", lc "width", lc "signed", lc "msb", lc "lsb"]
theorem ok_Signal_init : FnOk (ms 78 0) nm_Signal_init 8 where
  nms := by rfl
  kind := by rfl
  co := by rfl
  gen := by rfl
  cell := by decide
  nd := by decide
  dbg := by decide
  par := by intro name qual doc pm an cdv ct vs h; obtain ⟨_, vs, rfl, k1⟩ := lenS h; obtain ⟨_, vs, rfl, k2⟩ := lenS k1; obtain ⟨_, vs, rfl, k3⟩ := lenS k2; obtain ⟨_, vs, rfl, k4⟩ := lenS k3; obtain ⟨_, vs, rfl, k5⟩ := lenS k4; obtain ⟨_, vs, rfl, k6⟩ := lenS k5; obtain ⟨_, vs, rfl, k7⟩ := lenS k6; obtain ⟨_, vs, rfl, k8⟩ := lenS k7; obtain rfl := len0 k8; rfl
  loc := by decide
  le := by decide
noncomputable abbrev nm_Signal_is_net : List (Str × NameKind) := [lc "self", gl "net_kinds"]
theorem ok_Signal_is_net : FnOk (ms 78 1) nm_Signal_is_net 1 where
  nms := by rfl
  kind := by rfl
  co := by rfl
  gen := by rfl
  cell := by decide
  nd := by decide
  dbg := by decide
  par := by intro name qual doc pm an cdv ct vs h; obtain ⟨_, vs, rfl, k1⟩ := lenS h; obtain rfl := len0 k1; rfl
  loc := by decide
  le := by decide
noncomputable abbrev nm_Signal_words : List (Str × NameKind) := [lc "self", gl "abs"]
theorem ok_Signal_words : FnOk (ms 78 3) nm_Signal_words 1 where
  nms := by rfl
  kind := by rfl
  co := by rfl
  gen := by rfl
  cell := by decide
  nd := by decide
  dbg := by decide
  par := by intro name qual doc pm an cdv ct vs h; obtain ⟨_, vs, rfl, k1⟩ := lenS h; obtain rfl := len0 k1; rfl
  loc := by decide
  le := by decide
noncomputable abbrev nm_Signal_place : List (Str × NameKind) := [lc "self", lc "index", lc "place"]
theorem ok_Signal_place : FnOk (ms 78 5) nm_Signal_place 2 where
  nms := by rfl
  kind := by rfl
  co := by rfl
  gen := by rfl
  cell := by decide
  nd := by decide
  dbg := by decide
  par := by intro name qual doc pm an cdv ct vs h; obtain ⟨_, vs, rfl, k1⟩ := lenS h; obtain ⟨_, vs, rfl, k2⟩ := lenS k1; obtain rfl := len0 k2; rfl
  loc := by decide
  le := by decide
noncomputable abbrev nm_Design_init : List (Str × NameKind) := [lc "self"]
theorem ok_Design_init : FnOk (ms 79 0) nm_Design_init 1 where
  nms := by rfl
  kind := by rfl
  co := by rfl
  gen := by rfl
  cell := by decide
  nd := by decide
  dbg := by decide
  par := by intro name qual doc pm an cdv ct vs h; obtain ⟨_, vs, rfl, k1⟩ := lenS h; obtain rfl := len0 k1; rfl
  loc := by decide
  le := by decide
noncomputable abbrev nm_Design_add_signal : List (Str × NameKind) := [lc "self", lc "path", lc "kind", lc "width", lc "signed", lc "msb", lc "lsb", lc "at", lc "signal", gl "Signal", gl "len"]
theorem ok_Design_add_signal : FnOk (ms 79 1) nm_Design_add_signal 8 where
  nms := by rfl
  kind := by rfl
  co := by rfl
  gen := by rfl
  cell := by decide
  nd := by decide
  dbg := by decide
  par := by intro name qual doc pm an cdv ct vs h; obtain ⟨_, vs, rfl, k1⟩ := lenS h; obtain ⟨_, vs, rfl, k2⟩ := lenS k1; obtain ⟨_, vs, rfl, k3⟩ := lenS k2; obtain ⟨_, vs, rfl, k4⟩ := lenS k3; obtain ⟨_, vs, rfl, k5⟩ := lenS k4; obtain ⟨_, vs, rfl, k6⟩ := lenS k5; obtain ⟨_, vs, rfl, k7⟩ := lenS k6; obtain ⟨_, vs, rfl, k8⟩ := lenS k7; obtain rfl := len0 k8; rfl
  loc := by decide
  le := by decide
noncomputable abbrev nm_Store_init : List (Str × NameKind) := [lc "self", lc "signals"]
theorem ok_Store_init : FnOk (ms 81 0) nm_Store_init 2 where
  nms := by rfl
  kind := by rfl
  co := by rfl
  gen := by rfl
  cell := by decide
  nd := by decide
  dbg := by decide
  par := by intro name qual doc pm an cdv ct vs h; obtain ⟨_, vs, rfl, k1⟩ := lenS h; obtain ⟨_, vs, rfl, k2⟩ := lenS k1; obtain rfl := len0 k2; rfl
  loc := by decide
  le := by decide
noncomputable abbrev nm_Store_get : List (Str × NameKind) := [lc "self", lc "key", lc "value", lc "signal", gl "all_z", gl "all_x"]
theorem ok_Store_get : FnOk (ms 81 1) nm_Store_get 2 where
  nms := by rfl
  kind := by rfl
  co := by rfl
  gen := by rfl
  cell := by decide
  nd := by decide
  dbg := by decide
  par := by intro name qual doc pm an cdv ct vs h; obtain ⟨_, vs, rfl, k1⟩ := lenS h; obtain ⟨_, vs, rfl, k2⟩ := lenS k1; obtain rfl := len0 k2; rfl
  loc := by decide
  le := by decide
noncomputable abbrev nm_Store_word : List (Str × NameKind) := [lc "self", lc "key", lc "place", lc "words", lc "value", gl "all_x"]
theorem ok_Store_word : FnOk (ms 81 2) nm_Store_word 3 where
  nms := by rfl
  kind := by rfl
  co := by rfl
  gen := by rfl
  cell := by decide
  nd := by decide
  dbg := by decide
  par := by intro name qual doc pm an cdv ct vs h; obtain ⟨_, vs, rfl, k1⟩ := lenS h; obtain ⟨_, vs, rfl, k2⟩ := lenS k1; obtain ⟨_, vs, rfl, k3⟩ := lenS k2; obtain rfl := len0 k3; rfl
  loc := by decide
  le := by decide
noncomputable abbrev nm_Store_set_bits : List (Str × NameKind) := [lc "self", lc "key", lc "place", lc "lo", lc "value", lc "old", lc "new", gl "put_slice"]
theorem ok_Store_set_bits : FnOk (ms 81 3) nm_Store_set_bits 5 where
  nms := by rfl
  kind := by rfl
  co := by rfl
  gen := by rfl
  cell := by decide
  nd := by decide
  dbg := by decide
  par := by intro name qual doc pm an cdv ct vs h; obtain ⟨_, vs, rfl, k1⟩ := lenS h; obtain ⟨_, vs, rfl, k2⟩ := lenS k1; obtain ⟨_, vs, rfl, k3⟩ := lenS k2; obtain ⟨_, vs, rfl, k4⟩ := lenS k3; obtain ⟨_, vs, rfl, k5⟩ := lenS k4; obtain rfl := len0 k5; rfl
  loc := by decide
  le := by decide
noncomputable abbrev nm_Context_init : List (Str × NameKind) := [lc "self", lc "store", lc "frame", lc "now"]
theorem par_Context_init : ∀ (name qual : Str) (doc pm : Value) (an : Option Addr) (cdv ct : Value) (d : Addr) (t : Tok) (A : Around) (c : Cx) (vs : List Value) (s : Shared), True := by intros; trivial
noncomputable abbrev nm_law : List (Str × NameKind) := [lc "script", ce "row", lc "design", lc "turn", ce "widths", lc "key", ce "store", lc "held", ce "words", lc "index", lc "slots", lc "ctx", lc "parts", lc "wide", lc "value", lc "rows", lc "due", gl "_law_row", gl "Design", gl "range", gl "Store", gl "_law_bits", gl "_law_made", gl "Context", gl "_law_next", gl "sum", gl "resolve_target", gl "tuple", gl "_law_write", gl "store_rows"]
noncomputable def cf_law (n : Nat) : List (Str × Addr) := [(Str.ofString "words", n + 3), (Str.ofString "store", n + 2), (Str.ofString "widths", n + 1), (Str.ofString "row", n)]
theorem ok_law : FnOkC (st 95) nm_law 1 cf_law where
  nms := by rfl
  kind := by rfl
  co := by rfl
  gen := by rfl
  nd := by decide
  dbg := by decide
  par := by intro name qual doc pm an cdv ct vs h; obtain ⟨_, vs, rfl, k1⟩ := lenS h; obtain rfl := len0 k1; rfl
  le := by decide
  cells := by intro n; rfl
  look := by intro n p hp; simp only [cf_law, List.mem_cons, List.not_mem_nil, or_false] at hp; rcases hp with rfl | rfl | rfl | rfl <;> rfl
  pk := by simp only [nm_law, List.take, List.mem_cons, List.not_mem_nil, or_false]; rintro x (rfl) <;> first | exact .inl rfl | exact .inr ⟨rfl, fun _ => rfl⟩
end
section
set_option maxRecDepth 100000
set_option maxHeartbeats 0
section
noncomputable abbrev PW : Program := PySem.Challenge.pw_nn0334_01
theorem TE_tree : treeTable = PySem.W.Fast.tw14364793385576792824 := PySem.W.Fast.te14364793385576792824
theorem TE_denote : denote = PySem.W.Fast.tw11892475500146522536 := PySem.W.Fast.te11892475500146522536
theorem TE_segRunT : segRunT = PySem.W.Fast.tw10110043849684766642 := PySem.W.Fast.te10110043849684766642
theorem TE_segRun : segRun = PySem.W.Fast.tw14374325043358763698 := PySem.W.Fast.te14374325043358763698
theorem TE_topRun : topRun = PySem.W.Fast.tw14082659384304107361 := PySem.W.Fast.te14082659384304107361
noncomputable def kS (s : String) (t : Tok) : Value := .str (.ofString s) t
noncomputable def kE (P : Params) (s : String) (t : Tok) (v : Value) : DictEntry := ⟨PyData.keyHash P (.ofString s), .str (.ofString s) t, v⟩
noncomputable def fdName : Stmt → Str
  | .FunctionDef (name := n) .. => n
  | _ => .ofString ""
noncomputable def fD (s : Stmt) (q : Str) (g : Addr) (cl : List (Str × Addr)) (df kw doc pm : Value) (an : Option Addr) (cd ct : Value) (b : Addr) : Data :=
  .func ⟨fdName s, q, fdParams s, .stmts (fdBody s), fdScope s, g, cl, df, kw, doc, pm, an, cd, ct, b⟩
noncomputable def o11 (P : Params) : Obj := ⟨.type "tuple", none, .seq #[] 0, #[]⟩
noncomputable def o12 (P : Params) : Obj := ⟨.none, none, .fields #[], #[]⟩
noncomputable def o13 (P : Params) : Obj := ⟨.type "code", none, .fields #[kS "<module>" 182, kS "<module>" 183, kS "/claim/cut.py" 184, .int 1 0, .int 0 0, .int 0 0, .int 0 0, .int 0 0, .ref 11, .bool false, .int 181 0, .ref 12, .none, .none, .none, .none, .int 185 0, .int 1 0, kS "/claim/cut.py" 186], #[]⟩
noncomputable def o14 (P : Params) : Obj := ⟨.type "frame", none, .plain, #[(some (.ref 13)), (some (.ref 3)), (some (.ref 3)), none, (some (kS "__main__" 164)), none, (some (.ref 0))]⟩
noncomputable def hA (P : Params) : Heap := ⟨⟨[boot_o_0 P, boot_o_1 P, boot_o_2 P, boot_o_3 P, boot_o_4 P, boot_o_5 P, boot_o_6 P, boot_o_7 P, boot_o_8 P, boot_o_9 P, boot_o_10 P, o11 P, o12 P, o13 P, o14 P]⟩, {}⟩
noncomputable def env0 : Env := { scope := PW.main.scope, locals := mainNs, globals := mainNs, cells := [], code := .ref 13, frame := some 14 }
noncomputable abbrev bd : List Stmt := behindTheImports PW
noncomputable abbrev cE : Code := .body bd env0
noncomputable abbrev qf : Pos := ⟨0, 0, 0, 0⟩
noncomputable abbrev an0 : Option Value := (some (.ref 6))
noncomputable abbrev fr0 : List Frame := [topFrame qf]
theorem pre (w : World) (os : OsState) : topGo treeTable PW w 11 an0 12 ⟨boot_heap w.params, #[], boot_drawn, boot_toks, os⟩ (topStub PW) = some (⟨hA w.params, #[], {}, 187, os⟩, ⟨denote treeTable cE, cE, ⟨0, 0, 0, 0⟩, fr0⟩) := by
  rewrite [PySem.W.Fast.te15667345088766844465, TE_denote, TE_tree]
  kernel_rfl
noncomputable def t0 (P : Params) : BT := .node (boot_o_0 P) (.node (boot_o_1 P) (.node (boot_o_3 P) (.node (boot_o_7 P) (.nil) (.nil)) (.node (o11 P) (.nil) (.nil))) (.node (boot_o_5 P) (.node (boot_o_9 P) (.nil) (.nil)) (.node (o13 P) (.nil) (.nil)))) (.node (boot_o_2 P) (.node (boot_o_4 P) (.node (boot_o_8 P) (.nil) (.nil)) (.node (o12 P) (.nil) (.nil))) (.node (boot_o_6 P) (.node (boot_o_10 P) (.nil) (.nil)) (.node (o14 P) (.nil) (.nil))))
noncomputable abbrev S0 (w : World) (os : OsState) : SharedT := ⟨t0 w.params, 15, {}, #[], {}, 187, os⟩
theorem block (w : World) (os : OsState) : segRun treeTable PW w 11 an0 1 1 ⟨hA w.params, #[], {}, 187, os⟩ (blockOf bd env0 cE ⟨0, 0, 0, 0⟩ fr0) = some (.next, (S0 w os).abs, cE, ⟨0, 0, 0, 0⟩) := by
  rewrite [TE_segRun, TE_tree]
  kernel_rfl
noncomputable def o2v1 (P : Params) : Obj := ⟨.none, none, .dict #[kE P "type.__subclasses__.Exception.0" 228 (.int 39 0), kE P "type.__subclasses__.Exception.n" 229 (.int 1 0)] 2, #[]⟩
noncomputable def o3v1 (P : Params) : Obj := ⟨.type "dict", none, .dict #[kE P "__name__" 165 (kS "gateloom.errors" 194), kE P "__doc__" 166 .none, kE P "__package__" 167 .none, kE P "__loader__" 168 (.builtin "__main__.__loader__#opaque"), kE P "__spec__" 169 .none, kE P "__annotations__" 170 (.ref 6), kE P "__builtins__" 171 (.ref 4), kE P "__file__" 173 (kS "/claim/cut.py" 172), kE P "__cached__" 174 .none, kE P "_wall" 193 (.ref 21), kE P "GateloomError" 231 (.ref 39)] 11, #[]⟩
noncomputable def o12v1 (P : Params) : Obj := ⟨.none, none, .fields #[.int 1 0, .int 0 0, .ref 20, .int 5 0, .int 0 0, .ref 27], #[]⟩
noncomputable def o15 (P : Params) : Obj := ⟨.type "tuple", none, .seq #[] 0, #[]⟩
noncomputable def o16 (P : Params) : Obj := ⟨.none, none, .fields #[], #[]⟩
noncomputable def o17 (P : Params) : Obj := ⟨.type "tuple", none, .seq #[kS "k" 190] 0, #[]⟩
noncomputable def o18 (P : Params) : Obj := ⟨.type "tuple", none, .seq #[] 0, #[]⟩
noncomputable def o19 (P : Params) : Obj := ⟨.none, none, fD (st 0) (.ofString "_wall") 0 [] .none .none .none .none none .none .none 0, #[]⟩
noncomputable def o20 (P : Params) : Obj := ⟨.type "code", none, .fields #[kS "_wall" 187, kS "_wall" 188, kS "/claim/cut.py" 189, .int 1 0, .int 1 0, .int 0 0, .int 0 0, .int 3 0, .ref 15, .bool true, .int 181 0, .ref 16, .none, .ref 17, .ref 18, .ref 19, .int 191 0, .int 1 0, kS "/claim/cut.py" 192], #[]⟩
noncomputable def o21 (P : Params) : Obj := ⟨.type "function", none, fD (st 0) (.ofString "_wall") 3 [] .none .none .none (kS "__main__" 164) none (.ref 20) .none 0, #[]⟩
noncomputable def o22 (P : Params) : Obj := ⟨.type "tuple", none, .seq #[.type "Exception"] 0, #[]⟩
noncomputable def o23 (P : Params) : Obj := ⟨.type "builtin_function_or_method", none, .fields #[.builtin "type.__prepare__", .type "type"], #[]⟩
noncomputable def o24 (P : Params) : Obj := ⟨.type "dict", none, .dict #[kE P "__module__" 203 (kS "gateloom.errors" 194), kE P "__qualname__" 205 (kS "GateloomError" 204), kE P "__firstlineno__" 207 (.int 5 206), kE P "__init__" 220 (.ref 36), kE P "__static_attributes__" 224 (.ref 37)] 5, #[]⟩
noncomputable def o25 (P : Params) : Obj := ⟨.type "tuple", none, .seq #[] 0, #[]⟩
noncomputable def o26 (P : Params) : Obj := ⟨.none, none, .fields #[.int 7 0, .int 4 0, .ref 35], #[]⟩
noncomputable def o27 (P : Params) : Obj := ⟨.type "code", none, .fields #[kS "GateloomError" 198, kS "GateloomError" 199, kS "/claim/cut.py" 200, .int 5 0, .int 0 0, .int 0 0, .int 0 0, .int 0 0, .ref 25, .bool false, .int 181 0, .ref 26, .none, .none, .none, .none, .int 201 0, .int 5 0, kS "/claim/cut.py" 202], #[]⟩
noncomputable def o28 (P : Params) : Obj := ⟨.type "frame", none, .plain, #[(some (.ref 27)), (some (.ref 3)), (some (.ref 24)), none, (some (kS "gateloom.errors" 194)), none, (some (.ref 0))]⟩
noncomputable def o29 (P : Params) : Obj := ⟨.type "tuple", none, .seq #[.int (-1) 209, kS "" 210] 0, #[]⟩
noncomputable def o30 (P : Params) : Obj := ⟨.type "tuple", none, .seq #[] 0, #[]⟩
noncomputable def o31 (P : Params) : Obj := ⟨.none, none, .fields #[], #[]⟩
noncomputable def o32 (P : Params) : Obj := ⟨.type "tuple", none, .seq #[kS "self" 214, kS "kind" 215, kS "at" 216, kS "detail" 217] 0, #[]⟩
noncomputable def o33 (P : Params) : Obj := ⟨.type "tuple", none, .seq #[] 0, #[]⟩
noncomputable def o34 (P : Params) : Obj := ⟨.none, none, fD (ms 2 0) (.ofString "GateloomError.__init__") 0 [] .none .none .none .none none .none .none 0, #[]⟩
noncomputable def o35 (P : Params) : Obj := ⟨.type "code", none, .fields #[kS "__init__" 211, kS "GateloomError.__init__" 212, kS "/claim/cut.py" 213, .int 7 0, .int 4 0, .int 0 0, .int 0 0, .int 3 0, .ref 30, .bool true, .int 181 0, .ref 31, .none, .ref 32, .ref 33, .ref 34, .int 218 0, .int 7 0, kS "/claim/cut.py" 219], #[]⟩
noncomputable def o36 (P : Params) : Obj := ⟨.type "function", none, fD (ms 2 0) (.ofString "GateloomError.__init__") 3 [] (.ref 29) .none .none (kS "gateloom.errors" 194) none (.ref 35) .none 0, #[]⟩
noncomputable def o37 (P : Params) : Obj := ⟨.type "tuple", none, .seq #[kS "at" 221, kS "detail" 222, kS "kind" 223] 0, #[]⟩
noncomputable def o38 (P : Params) : Obj := ⟨.type "dict", none, .dict #[kE P "__module__" 203 (kS "gateloom.errors" 194), kE P "__firstlineno__" 207 (.int 5 206), kE P "__init__" 220 (.ref 36), kE P "__static_attributes__" 224 (.ref 37), kE P "__weakref__" 226 (.ref 40), kE P "__doc__" 227 .none] 3, #[]⟩
noncomputable def o39 (P : Params) : Obj := ⟨.type "type", none, .cls ⟨(.ofString "GateloomError"), [.type "Exception"], [.ref 39, .type "Exception", .type "BaseException", .type "object"], 38, (.ofString "GateloomError"), true, [], [], false, none, false⟩, #[(some (.ref 22)), none, (some (kS "GateloomError" 196)), (some (kS "GateloomError" 204)), (some (.builtin "Exception.__new__")), (some (.bool true))]⟩
noncomputable def o40 (P : Params) : Obj := ⟨.type "getset_descriptor", none, .fields #[kS "__weakref__" 225, .ref 39, .builtin "ExceptionGroup.__weakref__", .none], #[]⟩
noncomputable def o41 (P : Params) : Obj := ⟨.type "super", none, .fields #[.ref 39, .ref 39, .ref 39], #[]⟩
noncomputable def o42 (P : Params) : Obj := ⟨.type "builtin_function_or_method", none, .fields #[.builtin "object.__init_subclass__", .ref 39], #[]⟩
noncomputable def t1 (P : Params) : BT := .node (boot_o_0 P) (.node (boot_o_1 P) (.node (o3v1 P) (.node (boot_o_7 P) (.node (o15 P) (.node (o31 P) (.nil) (.nil)) (.nil)) (.node (o23 P) (.node (o39 P) (.nil) (.nil)) (.nil))) (.node (o11 P) (.node (o19 P) (.node (o35 P) (.nil) (.nil)) (.nil)) (.node (o27 P) (.nil) (.nil)))) (.node (boot_o_5 P) (.node (boot_o_9 P) (.node (o17 P) (.node (o33 P) (.nil) (.nil)) (.nil)) (.node (o25 P) (.node (o41 P) (.nil) (.nil)) (.nil))) (.node (o13 P) (.node (o21 P) (.node (o37 P) (.nil) (.nil)) (.nil)) (.node (o29 P) (.nil) (.nil))))) (.node (o2v1 P) (.node (boot_o_4 P) (.node (boot_o_8 P) (.node (o16 P) (.node (o32 P) (.nil) (.nil)) (.nil)) (.node (o24 P) (.node (o40 P) (.nil) (.nil)) (.nil))) (.node (o12v1 P) (.node (o20 P) (.node (o36 P) (.nil) (.nil)) (.nil)) (.node (o28 P) (.nil) (.nil)))) (.node (boot_o_6 P) (.node (boot_o_10 P) (.node (o18 P) (.node (o34 P) (.nil) (.nil)) (.nil)) (.node (o26 P) (.node (o42 P) (.nil) (.nil)) (.nil))) (.node (o14 P) (.node (o22 P) (.node (o38 P) (.nil) (.nil)) (.nil)) (.node (o30 P) (.nil) (.nil)))))
noncomputable def g0 : List Stmt := [st 0, st 1, st 2]
noncomputable abbrev S1 (w : World) (os : OsState) : SharedT := ⟨t1 w.params, 43, {}, #[], {}, 232, os⟩
theorem pc0 (w : World) (os : OsState) : segRun treeTable PW w 11 an0 1 279 (S0 w os).abs (piecesOf g0 env0 cE ⟨0, 0, 0, 0⟩ fr0) = some (.next, (S1 w os).abs, cE, ⟨5, 0, 10, 28⟩) := by
  refine segRun_of ?_
  rewrite [TE_segRunT, TE_tree]
  kernel_rfl
noncomputable def o3v2 (P : Params) : Obj := ⟨.type "dict", none, .dict #[kE P "__name__" 165 (kS "gateloom.vec" 248), kE P "__doc__" 166 .none, kE P "__package__" 167 .none, kE P "__loader__" 168 (.builtin "__main__.__loader__#opaque"), kE P "__spec__" 169 .none, kE P "__annotations__" 170 (.ref 6), kE P "__builtins__" 171 (.ref 4), kE P "__file__" 173 (kS "/claim/cut.py" 172), kE P "__cached__" 174 .none, kE P "_wall" 193 (.ref 21), kE P "GateloomError" 231 (.ref 39), kE P "DesignError" 247 (.ref 52), kE P "mask" 256 (.ref 61), kE P "vec" 267 (.ref 69), kE P "zeros" 274 (.ref 76), kE P "all_x" 282 (.ref 83), kE P "all_z" 289 (.ref 90)] 17, #[]⟩
noncomputable def o12v2 (P : Params) : Obj := ⟨.none, none, .fields #[.int 1 0, .int 0 0, .ref 20, .int 5 0, .int 0 0, .ref 27, .int 11 0, .int 0 0, .ref 48, .int 14 0, .int 0 0, .ref 60, .int 16 0, .int 0 0, .ref 68, .int 19 0, .int 0 0, .ref 75, .int 21 0, .int 0 0, .ref 82, .int 24 0, .int 0 0, .ref 89], #[]⟩
noncomputable def o39v1 (P : Params) : Obj := ⟨.type "type", none, .cls ⟨(.ofString "GateloomError"), [.type "Exception"], [.ref 39, .type "Exception", .type "BaseException", .type "object"], 38, (.ofString "GateloomError"), true, [], [.ref 52], false, none, false⟩, #[(some (.ref 22)), none, (some (kS "GateloomError" 196)), (some (kS "GateloomError" 204)), (some (.builtin "Exception.__new__")), (some (.bool true))]⟩
noncomputable def o43 (P : Params) : Obj := ⟨.type "tuple", none, .seq #[.ref 39] 0, #[]⟩
noncomputable def o44 (P : Params) : Obj := ⟨.type "builtin_function_or_method", none, .fields #[.builtin "type.__prepare__", .type "type"], #[]⟩
noncomputable def o45 (P : Params) : Obj := ⟨.type "dict", none, .dict #[kE P "__module__" 239 (kS "gateloom.errors" 194), kE P "__qualname__" 241 (kS "DesignError" 240), kE P "__firstlineno__" 243 (.int 11 242), kE P "__static_attributes__" 244 (.ref 50)] 4, #[]⟩
noncomputable def o46 (P : Params) : Obj := ⟨.type "tuple", none, .seq #[] 0, #[]⟩
noncomputable def o47 (P : Params) : Obj := ⟨.none, none, .fields #[], #[]⟩
noncomputable def o48 (P : Params) : Obj := ⟨.type "code", none, .fields #[kS "DesignError" 234, kS "DesignError" 235, kS "/claim/cut.py" 236, .int 11 0, .int 0 0, .int 0 0, .int 0 0, .int 0 0, .ref 46, .bool false, .int 181 0, .ref 47, .none, .none, .none, .none, .int 237 0, .int 11 0, kS "/claim/cut.py" 238], #[]⟩
noncomputable def o49 (P : Params) : Obj := ⟨.type "frame", none, .plain, #[(some (.ref 48)), (some (.ref 3)), (some (.ref 45)), none, (some (kS "gateloom.errors" 194)), none, (some (.ref 0))]⟩
noncomputable def o50 (P : Params) : Obj := ⟨.type "tuple", none, .seq #[] 0, #[]⟩
noncomputable def o51 (P : Params) : Obj := ⟨.type "dict", none, .dict #[kE P "__module__" 239 (kS "gateloom.errors" 194), kE P "__firstlineno__" 243 (.int 11 242), kE P "__static_attributes__" 244 (.ref 50), kE P "__doc__" 245 .none] 2, #[]⟩
noncomputable def o52 (P : Params) : Obj := ⟨.type "type", none, .cls ⟨(.ofString "DesignError"), [.ref 39], [.ref 52, .ref 39, .type "Exception", .type "BaseException", .type "object"], 51, (.ofString "DesignError"), true, [], [], false, none, false⟩, #[(some (.ref 43)), none, (some (kS "DesignError" 232)), (some (kS "DesignError" 240)), (some (.builtin "Exception.__new__")), (some (.bool true))]⟩
noncomputable def o53 (P : Params) : Obj := ⟨.type "super", none, .fields #[.ref 52, .ref 52, .ref 52], #[]⟩
noncomputable def o54 (P : Params) : Obj := ⟨.type "builtin_function_or_method", none, .fields #[.builtin "object.__init_subclass__", .ref 52], #[]⟩
noncomputable def o55 (P : Params) : Obj := ⟨.type "tuple", none, .seq #[] 0, #[]⟩
noncomputable def o56 (P : Params) : Obj := ⟨.none, none, .fields #[], #[]⟩
noncomputable def o57 (P : Params) : Obj := ⟨.type "tuple", none, .seq #[kS "w" 253] 0, #[]⟩
noncomputable def o58 (P : Params) : Obj := ⟨.type "tuple", none, .seq #[] 0, #[]⟩
noncomputable def o59 (P : Params) : Obj := ⟨.none, none, fD (st 5) (.ofString "mask") 0 [] .none .none .none .none none .none .none 0, #[]⟩
noncomputable def o60 (P : Params) : Obj := ⟨.type "code", none, .fields #[kS "mask" 250, kS "mask" 251, kS "/claim/cut.py" 252, .int 14 0, .int 1 0, .int 0 0, .int 0 0, .int 3 0, .ref 55, .bool true, .int 181 0, .ref 56, .none, .ref 57, .ref 58, .ref 59, .int 254 0, .int 14 0, kS "/claim/cut.py" 255], #[]⟩
noncomputable def o61 (P : Params) : Obj := ⟨.type "function", none, fD (st 5) (.ofString "mask") 3 [] .none .none .none (kS "gateloom.vec" 248) none (.ref 60) .none 0, #[]⟩
noncomputable def o62 (P : Params) : Obj := ⟨.type "tuple", none, .seq #[.int 0 257] 0, #[]⟩
noncomputable def o63 (P : Params) : Obj := ⟨.type "tuple", none, .seq #[] 0, #[]⟩
noncomputable def o64 (P : Params) : Obj := ⟨.none, none, .fields #[], #[]⟩
noncomputable def o65 (P : Params) : Obj := ⟨.type "tuple", none, .seq #[kS "w" 261, kS "a" 262, kS "b" 263, kS "full" 264] 0, #[]⟩
noncomputable def o66 (P : Params) : Obj := ⟨.type "tuple", none, .seq #[] 0, #[]⟩
noncomputable def o67 (P : Params) : Obj := ⟨.none, none, fD (st 6) (.ofString "vec") 0 [] .none .none .none .none none .none .none 0, #[]⟩
noncomputable def o68 (P : Params) : Obj := ⟨.type "code", none, .fields #[kS "vec" 258, kS "vec" 259, kS "/claim/cut.py" 260, .int 16 0, .int 3 0, .int 0 0, .int 0 0, .int 3 0, .ref 63, .bool true, .int 181 0, .ref 64, .none, .ref 65, .ref 66, .ref 67, .int 265 0, .int 16 0, kS "/claim/cut.py" 266], #[]⟩
noncomputable def o69 (P : Params) : Obj := ⟨.type "function", none, fD (st 6) (.ofString "vec") 3 [] (.ref 62) .none .none (kS "gateloom.vec" 248) none (.ref 68) .none 0, #[]⟩
noncomputable def o70 (P : Params) : Obj := ⟨.type "tuple", none, .seq #[] 0, #[]⟩
noncomputable def o71 (P : Params) : Obj := ⟨.none, none, .fields #[], #[]⟩
noncomputable def o72 (P : Params) : Obj := ⟨.type "tuple", none, .seq #[kS "w" 271] 0, #[]⟩
noncomputable def o73 (P : Params) : Obj := ⟨.type "tuple", none, .seq #[] 0, #[]⟩
noncomputable def o74 (P : Params) : Obj := ⟨.none, none, fD (st 7) (.ofString "zeros") 0 [] .none .none .none .none none .none .none 0, #[]⟩
noncomputable def o75 (P : Params) : Obj := ⟨.type "code", none, .fields #[kS "zeros" 268, kS "zeros" 269, kS "/claim/cut.py" 270, .int 19 0, .int 1 0, .int 0 0, .int 0 0, .int 3 0, .ref 70, .bool true, .int 181 0, .ref 71, .none, .ref 72, .ref 73, .ref 74, .int 272 0, .int 19 0, kS "/claim/cut.py" 273], #[]⟩
noncomputable def o76 (P : Params) : Obj := ⟨.type "function", none, fD (st 7) (.ofString "zeros") 3 [] .none .none .none (kS "gateloom.vec" 248) none (.ref 75) .none 0, #[]⟩
noncomputable def o77 (P : Params) : Obj := ⟨.type "tuple", none, .seq #[] 0, #[]⟩
noncomputable def o78 (P : Params) : Obj := ⟨.none, none, .fields #[], #[]⟩
noncomputable def o79 (P : Params) : Obj := ⟨.type "tuple", none, .seq #[kS "w" 278, kS "full" 279] 0, #[]⟩
noncomputable def o80 (P : Params) : Obj := ⟨.type "tuple", none, .seq #[] 0, #[]⟩
noncomputable def o81 (P : Params) : Obj := ⟨.none, none, fD (st 8) (.ofString "all_x") 0 [] .none .none .none .none none .none .none 0, #[]⟩
noncomputable def o82 (P : Params) : Obj := ⟨.type "code", none, .fields #[kS "all_x" 275, kS "all_x" 276, kS "/claim/cut.py" 277, .int 21 0, .int 1 0, .int 0 0, .int 0 0, .int 3 0, .ref 77, .bool true, .int 181 0, .ref 78, .none, .ref 79, .ref 80, .ref 81, .int 280 0, .int 21 0, kS "/claim/cut.py" 281], #[]⟩
noncomputable def o83 (P : Params) : Obj := ⟨.type "function", none, fD (st 8) (.ofString "all_x") 3 [] .none .none .none (kS "gateloom.vec" 248) none (.ref 82) .none 0, #[]⟩
noncomputable def o84 (P : Params) : Obj := ⟨.type "tuple", none, .seq #[] 0, #[]⟩
noncomputable def o85 (P : Params) : Obj := ⟨.none, none, .fields #[], #[]⟩
noncomputable def o86 (P : Params) : Obj := ⟨.type "tuple", none, .seq #[kS "w" 286] 0, #[]⟩
noncomputable def o87 (P : Params) : Obj := ⟨.type "tuple", none, .seq #[] 0, #[]⟩
noncomputable def o88 (P : Params) : Obj := ⟨.none, none, fD (st 9) (.ofString "all_z") 0 [] .none .none .none .none none .none .none 0, #[]⟩
noncomputable def o89 (P : Params) : Obj := ⟨.type "code", none, .fields #[kS "all_z" 283, kS "all_z" 284, kS "/claim/cut.py" 285, .int 24 0, .int 1 0, .int 0 0, .int 0 0, .int 3 0, .ref 84, .bool true, .int 181 0, .ref 85, .none, .ref 86, .ref 87, .ref 88, .int 287 0, .int 24 0, kS "/claim/cut.py" 288], #[]⟩
noncomputable def o90 (P : Params) : Obj := ⟨.type "function", none, fD (st 9) (.ofString "all_z") 3 [] .none .none .none (kS "gateloom.vec" 248) none (.ref 89) .none 0, #[]⟩
noncomputable def t2 (P : Params) : BT := .node (boot_o_0 P) (.node (boot_o_1 P) (.node (o3v2 P) (.node (boot_o_7 P) (.node (o15 P) (.node (o31 P) (.node (o63 P) (.nil) (.nil)) (.nil)) (.node (o47 P) (.node (o79 P) (.nil) (.nil)) (.nil))) (.node (o23 P) (.node (o39v1 P) (.node (o71 P) (.nil) (.nil)) (.nil)) (.node (o55 P) (.node (o87 P) (.nil) (.nil)) (.nil)))) (.node (o11 P) (.node (o19 P) (.node (o35 P) (.node (o67 P) (.nil) (.nil)) (.nil)) (.node (o51 P) (.node (o83 P) (.nil) (.nil)) (.nil))) (.node (o27 P) (.node (o43 P) (.node (o75 P) (.nil) (.nil)) (.nil)) (.node (o59 P) (.nil) (.nil))))) (.node (boot_o_5 P) (.node (boot_o_9 P) (.node (o17 P) (.node (o33 P) (.node (o65 P) (.nil) (.nil)) (.nil)) (.node (o49 P) (.node (o81 P) (.nil) (.nil)) (.nil))) (.node (o25 P) (.node (o41 P) (.node (o73 P) (.nil) (.nil)) (.nil)) (.node (o57 P) (.node (o89 P) (.nil) (.nil)) (.nil)))) (.node (o13 P) (.node (o21 P) (.node (o37 P) (.node (o69 P) (.nil) (.nil)) (.nil)) (.node (o53 P) (.node (o85 P) (.nil) (.nil)) (.nil))) (.node (o29 P) (.node (o45 P) (.node (o77 P) (.nil) (.nil)) (.nil)) (.node (o61 P) (.nil) (.nil)))))) (.node (o2v1 P) (.node (boot_o_4 P) (.node (boot_o_8 P) (.node (o16 P) (.node (o32 P) (.node (o64 P) (.nil) (.nil)) (.nil)) (.node (o48 P) (.node (o80 P) (.nil) (.nil)) (.nil))) (.node (o24 P) (.node (o40 P) (.node (o72 P) (.nil) (.nil)) (.nil)) (.node (o56 P) (.node (o88 P) (.nil) (.nil)) (.nil)))) (.node (o12v2 P) (.node (o20 P) (.node (o36 P) (.node (o68 P) (.nil) (.nil)) (.nil)) (.node (o52 P) (.node (o84 P) (.nil) (.nil)) (.nil))) (.node (o28 P) (.node (o44 P) (.node (o76 P) (.nil) (.nil)) (.nil)) (.node (o60 P) (.nil) (.nil))))) (.node (boot_o_6 P) (.node (boot_o_10 P) (.node (o18 P) (.node (o34 P) (.node (o66 P) (.nil) (.nil)) (.nil)) (.node (o50 P) (.node (o82 P) (.nil) (.nil)) (.nil))) (.node (o26 P) (.node (o42 P) (.node (o74 P) (.nil) (.nil)) (.nil)) (.node (o58 P) (.node (o90 P) (.nil) (.nil)) (.nil)))) (.node (o14 P) (.node (o22 P) (.node (o38 P) (.node (o70 P) (.nil) (.nil)) (.nil)) (.node (o54 P) (.node (o86 P) (.nil) (.nil)) (.nil))) (.node (o30 P) (.node (o46 P) (.node (o78 P) (.nil) (.nil)) (.nil)) (.node (o62 P) (.nil) (.nil))))))
noncomputable def g1 : List Stmt := [st 3, st 4, st 5, st 6, st 7, st 8, st 9]
noncomputable abbrev S2 (w : World) (os : OsState) : SharedT := ⟨t2 w.params, 91, {}, #[], {}, 290, os⟩
theorem pc1 (w : World) (os : OsState) : segRun treeTable PW w 11 an0 1 374 (S1 w os).abs (piecesOf g1 env0 cE ⟨5, 0, 10, 28⟩ fr0) = some (.next, (S2 w os).abs, cE, ⟨24, 0, 25, 26⟩) := by
  refine segRun_of ?_
  rewrite [TE_segRunT, TE_tree]
  kernel_rfl
noncomputable def o3v3 (P : Params) : Obj := ⟨.type "dict", none, .dict #[kE P "__name__" 165 (kS "gateloom.vecarith" 394), kE P "__doc__" 166 .none, kE P "__package__" 167 .none, kE P "__loader__" 168 (.builtin "__main__.__loader__#opaque"), kE P "__spec__" 169 .none, kE P "__annotations__" 170 (.ref 6), kE P "__builtins__" 171 (.ref 4), kE P "__file__" 173 (kS "/claim/cut.py" 172), kE P "__cached__" 174 .none, kE P "_wall" 193 (.ref 21), kE P "GateloomError" 231 (.ref 39), kE P "DesignError" 247 (.ref 52), kE P "mask" 256 (.ref 61), kE P "vec" 267 (.ref 69), kE P "zeros" 274 (.ref 76), kE P "all_x" 282 (.ref 83), kE P "all_z" 289 (.ref 90), kE P "from_int" 297 (.ref 97), kE P "is_known" 304 (.ref 104), kE P "to_int" 315 (.ref 111), kE P "code" 323 (.ref 118), kE P "slice_vec" 339 (.ref 125), kE P "put_slice" 355 (.ref 132), kE P "concat" 366 (.ref 139), kE P "extend" 379 (.ref 146), kE P "z_to_x" 386 (.ref 153), kE P "truth" 393 (.ref 160), kE P "add" 403 (.ref 167), kE P "sub" 411 (.ref 174)] 29, #[]⟩
noncomputable def o12v3 (P : Params) : Obj := ⟨.none, none, .fields #[.int 1 0, .int 0 0, .ref 20, .int 5 0, .int 0 0, .ref 27, .int 11 0, .int 0 0, .ref 48, .int 14 0, .int 0 0, .ref 60, .int 16 0, .int 0 0, .ref 68, .int 19 0, .int 0 0, .ref 75, .int 21 0, .int 0 0, .ref 82, .int 24 0, .int 0 0, .ref 89, .int 26 0, .int 0 0, .ref 96, .int 28 0, .int 0 0, .ref 103, .int 30 0, .int 0 0, .ref 110, .int 37 0, .int 0 0, .ref 117, .int 39 0, .int 0 0, .ref 124, .int 50 0, .int 0 0, .ref 131, .int 61 0, .int 0 0, .ref 138, .int 70 0, .int 0 0, .ref 145, .int 80 0, .int 0 0, .ref 152, .int 82 0, .int 0 0, .ref 159, .int 89 0, .int 0 0, .ref 166, .int 93 0, .int 0 0, .ref 173], #[]⟩
noncomputable def o91 (P : Params) : Obj := ⟨.type "tuple", none, .seq #[] 0, #[]⟩
noncomputable def o92 (P : Params) : Obj := ⟨.none, none, .fields #[], #[]⟩
noncomputable def o93 (P : Params) : Obj := ⟨.type "tuple", none, .seq #[kS "w" 293, kS "n" 294] 0, #[]⟩
noncomputable def o94 (P : Params) : Obj := ⟨.type "tuple", none, .seq #[] 0, #[]⟩
noncomputable def o95 (P : Params) : Obj := ⟨.none, none, fD (st 10) (.ofString "from_int") 0 [] .none .none .none .none none .none .none 0, #[]⟩
noncomputable def o96 (P : Params) : Obj := ⟨.type "code", none, .fields #[kS "from_int" 290, kS "from_int" 291, kS "/claim/cut.py" 292, .int 26 0, .int 2 0, .int 0 0, .int 0 0, .int 3 0, .ref 91, .bool true, .int 181 0, .ref 92, .none, .ref 93, .ref 94, .ref 95, .int 295 0, .int 26 0, kS "/claim/cut.py" 296], #[]⟩
noncomputable def o97 (P : Params) : Obj := ⟨.type "function", none, fD (st 10) (.ofString "from_int") 3 [] .none .none .none (kS "gateloom.vec" 248) none (.ref 96) .none 0, #[]⟩
noncomputable def o98 (P : Params) : Obj := ⟨.type "tuple", none, .seq #[] 0, #[]⟩
noncomputable def o99 (P : Params) : Obj := ⟨.none, none, .fields #[], #[]⟩
noncomputable def o100 (P : Params) : Obj := ⟨.type "tuple", none, .seq #[kS "v" 301] 0, #[]⟩
noncomputable def o101 (P : Params) : Obj := ⟨.type "tuple", none, .seq #[] 0, #[]⟩
noncomputable def o102 (P : Params) : Obj := ⟨.none, none, fD (st 11) (.ofString "is_known") 0 [] .none .none .none .none none .none .none 0, #[]⟩
noncomputable def o103 (P : Params) : Obj := ⟨.type "code", none, .fields #[kS "is_known" 298, kS "is_known" 299, kS "/claim/cut.py" 300, .int 28 0, .int 1 0, .int 0 0, .int 0 0, .int 3 0, .ref 98, .bool true, .int 181 0, .ref 99, .none, .ref 100, .ref 101, .ref 102, .int 302 0, .int 28 0, kS "/claim/cut.py" 303], #[]⟩
noncomputable def o104 (P : Params) : Obj := ⟨.type "function", none, fD (st 11) (.ofString "is_known") 3 [] .none .none .none (kS "gateloom.vec" 248) none (.ref 103) .none 0, #[]⟩
noncomputable def o105 (P : Params) : Obj := ⟨.type "tuple", none, .seq #[] 0, #[]⟩
noncomputable def o106 (P : Params) : Obj := ⟨.none, none, .fields #[], #[]⟩
noncomputable def o107 (P : Params) : Obj := ⟨.type "tuple", none, .seq #[kS "v" 308, kS "signed" 309, kS "w" 310, kS "a" 311, kS "b" 312] 0, #[]⟩
noncomputable def o108 (P : Params) : Obj := ⟨.type "tuple", none, .seq #[] 0, #[]⟩
noncomputable def o109 (P : Params) : Obj := ⟨.none, none, fD (st 12) (.ofString "to_int") 0 [] .none .none .none .none none .none .none 0, #[]⟩
noncomputable def o110 (P : Params) : Obj := ⟨.type "code", none, .fields #[kS "to_int" 305, kS "to_int" 306, kS "/claim/cut.py" 307, .int 30 0, .int 2 0, .int 0 0, .int 0 0, .int 3 0, .ref 105, .bool true, .int 181 0, .ref 106, .none, .ref 107, .ref 108, .ref 109, .int 313 0, .int 30 0, kS "/claim/cut.py" 314], #[]⟩
noncomputable def o111 (P : Params) : Obj := ⟨.type "function", none, fD (st 12) (.ofString "to_int") 3 [] .none .none .none (kS "gateloom.vec" 248) none (.ref 110) .none 0, #[]⟩
noncomputable def o112 (P : Params) : Obj := ⟨.type "tuple", none, .seq #[] 0, #[]⟩
noncomputable def o113 (P : Params) : Obj := ⟨.none, none, .fields #[], #[]⟩
noncomputable def o114 (P : Params) : Obj := ⟨.type "tuple", none, .seq #[kS "v" 319, kS "i" 320] 0, #[]⟩
noncomputable def o115 (P : Params) : Obj := ⟨.type "tuple", none, .seq #[] 0, #[]⟩
noncomputable def o116 (P : Params) : Obj := ⟨.none, none, fD (st 13) (.ofString "code") 0 [] .none .none .none .none none .none .none 0, #[]⟩
noncomputable def o117 (P : Params) : Obj := ⟨.type "code", none, .fields #[kS "code" 316, kS "code" 317, kS "/claim/cut.py" 318, .int 37 0, .int 2 0, .int 0 0, .int 0 0, .int 3 0, .ref 112, .bool true, .int 181 0, .ref 113, .none, .ref 114, .ref 115, .ref 116, .int 321 0, .int 37 0, kS "/claim/cut.py" 322], #[]⟩
noncomputable def o118 (P : Params) : Obj := ⟨.type "function", none, fD (st 13) (.ofString "code") 3 [] .none .none .none (kS "gateloom.vec" 248) none (.ref 117) .none 0, #[]⟩
noncomputable def o119 (P : Params) : Obj := ⟨.type "tuple", none, .seq #[] 0, #[]⟩
noncomputable def o120 (P : Params) : Obj := ⟨.none, none, .fields #[], #[]⟩
noncomputable def o121 (P : Params) : Obj := ⟨.type "tuple", none, .seq #[kS "v" 327, kS "lo" 328, kS "w" 329, kS "first" 330, kS "last" 331, kS "inner" 332, kS "shift" 333, kS "outside" 334, kS "a" 335, kS "b" 336] 0, #[]⟩
noncomputable def o122 (P : Params) : Obj := ⟨.type "tuple", none, .seq #[] 0, #[]⟩
noncomputable def o123 (P : Params) : Obj := ⟨.none, none, fD (st 14) (.ofString "slice_vec") 0 [] .none .none .none .none none .none .none 0, #[]⟩
noncomputable def o124 (P : Params) : Obj := ⟨.type "code", none, .fields #[kS "slice_vec" 324, kS "slice_vec" 325, kS "/claim/cut.py" 326, .int 39 0, .int 3 0, .int 0 0, .int 0 0, .int 3 0, .ref 119, .bool true, .int 181 0, .ref 120, .none, .ref 121, .ref 122, .ref 123, .int 337 0, .int 39 0, kS "/claim/cut.py" 338], #[]⟩
noncomputable def o125 (P : Params) : Obj := ⟨.type "function", none, fD (st 14) (.ofString "slice_vec") 3 [] .none .none .none (kS "gateloom.vec" 248) none (.ref 124) .none 0, #[]⟩
noncomputable def o126 (P : Params) : Obj := ⟨.type "tuple", none, .seq #[] 0, #[]⟩
noncomputable def o127 (P : Params) : Obj := ⟨.none, none, .fields #[], #[]⟩
noncomputable def o128 (P : Params) : Obj := ⟨.type "tuple", none, .seq #[kS "v" 343, kS "lo" 344, kS "part" 345, kS "first" 346, kS "last" 347, kS "inner" 348, kS "skip" 349, kS "keep" 350, kS "a" 351, kS "b" 352] 0, #[]⟩
noncomputable def o129 (P : Params) : Obj := ⟨.type "tuple", none, .seq #[] 0, #[]⟩
noncomputable def o130 (P : Params) : Obj := ⟨.none, none, fD (st 15) (.ofString "put_slice") 0 [] .none .none .none .none none .none .none 0, #[]⟩
noncomputable def o131 (P : Params) : Obj := ⟨.type "code", none, .fields #[kS "put_slice" 340, kS "put_slice" 341, kS "/claim/cut.py" 342, .int 50 0, .int 3 0, .int 0 0, .int 0 0, .int 3 0, .ref 126, .bool true, .int 181 0, .ref 127, .none, .ref 128, .ref 129, .ref 130, .int 353 0, .int 50 0, kS "/claim/cut.py" 354], #[]⟩
noncomputable def o132 (P : Params) : Obj := ⟨.type "function", none, fD (st 15) (.ofString "put_slice") 3 [] .none .none .none (kS "gateloom.vec" 248) none (.ref 131) .none 0, #[]⟩
noncomputable def o133 (P : Params) : Obj := ⟨.type "tuple", none, .seq #[] 0, #[]⟩
noncomputable def o134 (P : Params) : Obj := ⟨.none, none, .fields #[], #[]⟩
noncomputable def o135 (P : Params) : Obj := ⟨.type "tuple", none, .seq #[kS "vs" 359, kS "w" 360, kS "a" 361, kS "b" 362, kS "v" 363] 0, #[]⟩
noncomputable def o136 (P : Params) : Obj := ⟨.type "tuple", none, .seq #[] 0, #[]⟩
noncomputable def o137 (P : Params) : Obj := ⟨.none, none, fD (st 16) (.ofString "concat") 0 [] .none .none .none .none none .none .none 0, #[]⟩
noncomputable def o138 (P : Params) : Obj := ⟨.type "code", none, .fields #[kS "concat" 356, kS "concat" 357, kS "/claim/cut.py" 358, .int 61 0, .int 1 0, .int 0 0, .int 0 0, .int 3 0, .ref 133, .bool true, .int 181 0, .ref 134, .none, .ref 135, .ref 136, .ref 137, .int 364 0, .int 61 0, kS "/claim/cut.py" 365], #[]⟩
noncomputable def o139 (P : Params) : Obj := ⟨.type "function", none, fD (st 16) (.ofString "concat") 3 [] .none .none .none (kS "gateloom.vec" 248) none (.ref 138) .none 0, #[]⟩
noncomputable def o140 (P : Params) : Obj := ⟨.type "tuple", none, .seq #[] 0, #[]⟩
noncomputable def o141 (P : Params) : Obj := ⟨.none, none, .fields #[], #[]⟩
noncomputable def o142 (P : Params) : Obj := ⟨.type "tuple", none, .seq #[kS "v" 370, kS "w" 371, kS "signed" 372, kS "fill" 373, kS "top" 374, kS "a" 375, kS "b" 376] 0, #[]⟩
noncomputable def o143 (P : Params) : Obj := ⟨.type "tuple", none, .seq #[] 0, #[]⟩
noncomputable def o144 (P : Params) : Obj := ⟨.none, none, fD (st 17) (.ofString "extend") 0 [] .none .none .none .none none .none .none 0, #[]⟩
noncomputable def o145 (P : Params) : Obj := ⟨.type "code", none, .fields #[kS "extend" 367, kS "extend" 368, kS "/claim/cut.py" 369, .int 70 0, .int 3 0, .int 0 0, .int 0 0, .int 3 0, .ref 140, .bool true, .int 181 0, .ref 141, .none, .ref 142, .ref 143, .ref 144, .int 377 0, .int 70 0, kS "/claim/cut.py" 378], #[]⟩
noncomputable def o146 (P : Params) : Obj := ⟨.type "function", none, fD (st 17) (.ofString "extend") 3 [] .none .none .none (kS "gateloom.vec" 248) none (.ref 145) .none 0, #[]⟩
noncomputable def o147 (P : Params) : Obj := ⟨.type "tuple", none, .seq #[] 0, #[]⟩
noncomputable def o148 (P : Params) : Obj := ⟨.none, none, .fields #[], #[]⟩
noncomputable def o149 (P : Params) : Obj := ⟨.type "tuple", none, .seq #[kS "v" 383] 0, #[]⟩
noncomputable def o150 (P : Params) : Obj := ⟨.type "tuple", none, .seq #[] 0, #[]⟩
noncomputable def o151 (P : Params) : Obj := ⟨.none, none, fD (st 18) (.ofString "z_to_x") 0 [] .none .none .none .none none .none .none 0, #[]⟩
noncomputable def o152 (P : Params) : Obj := ⟨.type "code", none, .fields #[kS "z_to_x" 380, kS "z_to_x" 381, kS "/claim/cut.py" 382, .int 80 0, .int 1 0, .int 0 0, .int 0 0, .int 3 0, .ref 147, .bool true, .int 181 0, .ref 148, .none, .ref 149, .ref 150, .ref 151, .int 384 0, .int 80 0, kS "/claim/cut.py" 385], #[]⟩
noncomputable def o153 (P : Params) : Obj := ⟨.type "function", none, fD (st 18) (.ofString "z_to_x") 3 [] .none .none .none (kS "gateloom.vec" 248) none (.ref 152) .none 0, #[]⟩
noncomputable def o154 (P : Params) : Obj := ⟨.type "tuple", none, .seq #[] 0, #[]⟩
noncomputable def o155 (P : Params) : Obj := ⟨.none, none, .fields #[], #[]⟩
noncomputable def o156 (P : Params) : Obj := ⟨.type "tuple", none, .seq #[kS "v" 390] 0, #[]⟩
noncomputable def o157 (P : Params) : Obj := ⟨.type "tuple", none, .seq #[] 0, #[]⟩
noncomputable def o158 (P : Params) : Obj := ⟨.none, none, fD (st 19) (.ofString "truth") 0 [] .none .none .none .none none .none .none 0, #[]⟩
noncomputable def o159 (P : Params) : Obj := ⟨.type "code", none, .fields #[kS "truth" 387, kS "truth" 388, kS "/claim/cut.py" 389, .int 82 0, .int 1 0, .int 0 0, .int 0 0, .int 3 0, .ref 154, .bool true, .int 181 0, .ref 155, .none, .ref 156, .ref 157, .ref 158, .int 391 0, .int 82 0, kS "/claim/cut.py" 392], #[]⟩
noncomputable def o160 (P : Params) : Obj := ⟨.type "function", none, fD (st 19) (.ofString "truth") 3 [] .none .none .none (kS "gateloom.vec" 248) none (.ref 159) .none 0, #[]⟩
noncomputable def o161 (P : Params) : Obj := ⟨.type "tuple", none, .seq #[] 0, #[]⟩
noncomputable def o162 (P : Params) : Obj := ⟨.none, none, .fields #[], #[]⟩
noncomputable def o163 (P : Params) : Obj := ⟨.type "tuple", none, .seq #[kS "u" 399, kS "v" 400] 0, #[]⟩
noncomputable def o164 (P : Params) : Obj := ⟨.type "tuple", none, .seq #[] 0, #[]⟩
noncomputable def o165 (P : Params) : Obj := ⟨.none, none, fD (st 21) (.ofString "add") 0 [] .none .none .none .none none .none .none 0, #[]⟩
noncomputable def o166 (P : Params) : Obj := ⟨.type "code", none, .fields #[kS "add" 396, kS "add" 397, kS "/claim/cut.py" 398, .int 89 0, .int 2 0, .int 0 0, .int 0 0, .int 3 0, .ref 161, .bool true, .int 181 0, .ref 162, .none, .ref 163, .ref 164, .ref 165, .int 401 0, .int 89 0, kS "/claim/cut.py" 402], #[]⟩
noncomputable def o167 (P : Params) : Obj := ⟨.type "function", none, fD (st 21) (.ofString "add") 3 [] .none .none .none (kS "gateloom.vecarith" 394) none (.ref 166) .none 0, #[]⟩
noncomputable def o168 (P : Params) : Obj := ⟨.type "tuple", none, .seq #[] 0, #[]⟩
noncomputable def o169 (P : Params) : Obj := ⟨.none, none, .fields #[], #[]⟩
noncomputable def o170 (P : Params) : Obj := ⟨.type "tuple", none, .seq #[kS "u" 407, kS "v" 408] 0, #[]⟩
noncomputable def o171 (P : Params) : Obj := ⟨.type "tuple", none, .seq #[] 0, #[]⟩
noncomputable def o172 (P : Params) : Obj := ⟨.none, none, fD (st 22) (.ofString "sub") 0 [] .none .none .none .none none .none .none 0, #[]⟩
noncomputable def o173 (P : Params) : Obj := ⟨.type "code", none, .fields #[kS "sub" 404, kS "sub" 405, kS "/claim/cut.py" 406, .int 93 0, .int 2 0, .int 0 0, .int 0 0, .int 3 0, .ref 168, .bool true, .int 181 0, .ref 169, .none, .ref 170, .ref 171, .ref 172, .int 409 0, .int 93 0, kS "/claim/cut.py" 410], #[]⟩
noncomputable def o174 (P : Params) : Obj := ⟨.type "function", none, fD (st 22) (.ofString "sub") 3 [] .none .none .none (kS "gateloom.vecarith" 394) none (.ref 173) .none 0, #[]⟩
noncomputable def t3 (P : Params) : BT := .node (boot_o_0 P) (.node (boot_o_1 P) (.node (o3v3 P) (.node (boot_o_7 P) (.node (o15 P) (.node (o31 P) (.node (o63 P) (.node (o127 P) (.nil) (.nil)) (.nil)) (.node (o95 P) (.node (o159 P) (.nil) (.nil)) (.nil))) (.node (o47 P) (.node (o79 P) (.node (o143 P) (.nil) (.nil)) (.nil)) (.node (o111 P) (.nil) (.nil)))) (.node (o23 P) (.node (o39v1 P) (.node (o71 P) (.node (o135 P) (.nil) (.nil)) (.nil)) (.node (o103 P) (.node (o167 P) (.nil) (.nil)) (.nil))) (.node (o55 P) (.node (o87 P) (.node (o151 P) (.nil) (.nil)) (.nil)) (.node (o119 P) (.nil) (.nil))))) (.node (o11 P) (.node (o19 P) (.node (o35 P) (.node (o67 P) (.node (o131 P) (.nil) (.nil)) (.nil)) (.node (o99 P) (.node (o163 P) (.nil) (.nil)) (.nil))) (.node (o51 P) (.node (o83 P) (.node (o147 P) (.nil) (.nil)) (.nil)) (.node (o115 P) (.nil) (.nil)))) (.node (o27 P) (.node (o43 P) (.node (o75 P) (.node (o139 P) (.nil) (.nil)) (.nil)) (.node (o107 P) (.node (o171 P) (.nil) (.nil)) (.nil))) (.node (o59 P) (.node (o91 P) (.node (o155 P) (.nil) (.nil)) (.nil)) (.node (o123 P) (.nil) (.nil)))))) (.node (boot_o_5 P) (.node (boot_o_9 P) (.node (o17 P) (.node (o33 P) (.node (o65 P) (.node (o129 P) (.nil) (.nil)) (.nil)) (.node (o97 P) (.node (o161 P) (.nil) (.nil)) (.nil))) (.node (o49 P) (.node (o81 P) (.node (o145 P) (.nil) (.nil)) (.nil)) (.node (o113 P) (.nil) (.nil)))) (.node (o25 P) (.node (o41 P) (.node (o73 P) (.node (o137 P) (.nil) (.nil)) (.nil)) (.node (o105 P) (.node (o169 P) (.nil) (.nil)) (.nil))) (.node (o57 P) (.node (o89 P) (.node (o153 P) (.nil) (.nil)) (.nil)) (.node (o121 P) (.nil) (.nil))))) (.node (o13 P) (.node (o21 P) (.node (o37 P) (.node (o69 P) (.node (o133 P) (.nil) (.nil)) (.nil)) (.node (o101 P) (.node (o165 P) (.nil) (.nil)) (.nil))) (.node (o53 P) (.node (o85 P) (.node (o149 P) (.nil) (.nil)) (.nil)) (.node (o117 P) (.nil) (.nil)))) (.node (o29 P) (.node (o45 P) (.node (o77 P) (.node (o141 P) (.nil) (.nil)) (.nil)) (.node (o109 P) (.node (o173 P) (.nil) (.nil)) (.nil))) (.node (o61 P) (.node (o93 P) (.node (o157 P) (.nil) (.nil)) (.nil)) (.node (o125 P) (.nil) (.nil))))))) (.node (o2v1 P) (.node (boot_o_4 P) (.node (boot_o_8 P) (.node (o16 P) (.node (o32 P) (.node (o64 P) (.node (o128 P) (.nil) (.nil)) (.nil)) (.node (o96 P) (.node (o160 P) (.nil) (.nil)) (.nil))) (.node (o48 P) (.node (o80 P) (.node (o144 P) (.nil) (.nil)) (.nil)) (.node (o112 P) (.nil) (.nil)))) (.node (o24 P) (.node (o40 P) (.node (o72 P) (.node (o136 P) (.nil) (.nil)) (.nil)) (.node (o104 P) (.node (o168 P) (.nil) (.nil)) (.nil))) (.node (o56 P) (.node (o88 P) (.node (o152 P) (.nil) (.nil)) (.nil)) (.node (o120 P) (.nil) (.nil))))) (.node (o12v3 P) (.node (o20 P) (.node (o36 P) (.node (o68 P) (.node (o132 P) (.nil) (.nil)) (.nil)) (.node (o100 P) (.node (o164 P) (.nil) (.nil)) (.nil))) (.node (o52 P) (.node (o84 P) (.node (o148 P) (.nil) (.nil)) (.nil)) (.node (o116 P) (.nil) (.nil)))) (.node (o28 P) (.node (o44 P) (.node (o76 P) (.node (o140 P) (.nil) (.nil)) (.nil)) (.node (o108 P) (.node (o172 P) (.nil) (.nil)) (.nil))) (.node (o60 P) (.node (o92 P) (.node (o156 P) (.nil) (.nil)) (.nil)) (.node (o124 P) (.nil) (.nil)))))) (.node (boot_o_6 P) (.node (boot_o_10 P) (.node (o18 P) (.node (o34 P) (.node (o66 P) (.node (o130 P) (.nil) (.nil)) (.nil)) (.node (o98 P) (.node (o162 P) (.nil) (.nil)) (.nil))) (.node (o50 P) (.node (o82 P) (.node (o146 P) (.nil) (.nil)) (.nil)) (.node (o114 P) (.nil) (.nil)))) (.node (o26 P) (.node (o42 P) (.node (o74 P) (.node (o138 P) (.nil) (.nil)) (.nil)) (.node (o106 P) (.node (o170 P) (.nil) (.nil)) (.nil))) (.node (o58 P) (.node (o90 P) (.node (o154 P) (.nil) (.nil)) (.nil)) (.node (o122 P) (.nil) (.nil))))) (.node (o14 P) (.node (o22 P) (.node (o38 P) (.node (o70 P) (.node (o134 P) (.nil) (.nil)) (.nil)) (.node (o102 P) (.node (o166 P) (.nil) (.nil)) (.nil))) (.node (o54 P) (.node (o86 P) (.node (o150 P) (.nil) (.nil)) (.nil)) (.node (o118 P) (.nil) (.nil)))) (.node (o30 P) (.node (o46 P) (.node (o78 P) (.node (o142 P) (.nil) (.nil)) (.nil)) (.node (o110 P) (.node (o174 P) (.nil) (.nil)) (.nil))) (.node (o62 P) (.node (o94 P) (.node (o158 P) (.nil) (.nil)) (.nil)) (.node (o126 P) (.nil) (.nil)))))))
noncomputable def g2 : List Stmt := [st 10, st 11, st 12, st 13, st 14, st 15, st 16, st 17, st 18, st 19, st 20, st 21, st 22]
noncomputable abbrev S3 (w : World) (os : OsState) : SharedT := ⟨t3 w.params, 175, {}, #[], {}, 412, os⟩
theorem pc2 (w : World) (os : OsState) : segRun treeTable PW w 11 an0 1 394 (S2 w os).abs (piecesOf g2 env0 cE ⟨24, 0, 25, 26⟩ fr0) = some (.next, (S3 w os).abs, cE, ⟨93, 0, 96, 38⟩) := by
  refine segRun_of ?_
  rewrite [TE_segRunT, TE_tree]
  kernel_rfl
noncomputable def o3v4 (P : Params) : Obj := ⟨.type "dict", none, .dict #[kE P "__name__" 165 (kS "gateloom.vecarith" 394), kE P "__doc__" 166 .none, kE P "__package__" 167 .none, kE P "__loader__" 168 (.builtin "__main__.__loader__#opaque"), kE P "__spec__" 169 .none, kE P "__annotations__" 170 (.ref 6), kE P "__builtins__" 171 (.ref 4), kE P "__file__" 173 (kS "/claim/cut.py" 172), kE P "__cached__" 174 .none, kE P "_wall" 193 (.ref 21), kE P "GateloomError" 231 (.ref 39), kE P "DesignError" 247 (.ref 52), kE P "mask" 256 (.ref 61), kE P "vec" 267 (.ref 69), kE P "zeros" 274 (.ref 76), kE P "all_x" 282 (.ref 83), kE P "all_z" 289 (.ref 90), kE P "from_int" 297 (.ref 97), kE P "is_known" 304 (.ref 104), kE P "to_int" 315 (.ref 111), kE P "code" 323 (.ref 118), kE P "slice_vec" 339 (.ref 125), kE P "put_slice" 355 (.ref 132), kE P "concat" 366 (.ref 139), kE P "extend" 379 (.ref 146), kE P "z_to_x" 386 (.ref 153), kE P "truth" 393 (.ref 160), kE P "add" 403 (.ref 167), kE P "sub" 411 (.ref 174), kE P "mul" 419 (.ref 181), kE P "neg" 426 (.ref 188), kE P "quotient" 435 (.ref 195), kE P "div" 446 (.ref 202), kE P "mod" 457 (.ref 209), kE P "raise_whole" 470 (.ref 216), kE P "power" 483 (.ref 223), kE P "shift_left" 493 (.ref 230), kE P "shift_right" 502 (.ref 237), kE P "shift_arith" 517 (.ref 244), kE P "ordered" 528 (.ref 251), kE P "less" 538 (.ref 258)] 41, #[]⟩
noncomputable def o12v4 (P : Params) : Obj := ⟨.none, none, .fields #[.int 1 0, .int 0 0, .ref 20, .int 5 0, .int 0 0, .ref 27, .int 11 0, .int 0 0, .ref 48, .int 14 0, .int 0 0, .ref 60, .int 16 0, .int 0 0, .ref 68, .int 19 0, .int 0 0, .ref 75, .int 21 0, .int 0 0, .ref 82, .int 24 0, .int 0 0, .ref 89, .int 26 0, .int 0 0, .ref 96, .int 28 0, .int 0 0, .ref 103, .int 30 0, .int 0 0, .ref 110, .int 37 0, .int 0 0, .ref 117, .int 39 0, .int 0 0, .ref 124, .int 50 0, .int 0 0, .ref 131, .int 61 0, .int 0 0, .ref 138, .int 70 0, .int 0 0, .ref 145, .int 80 0, .int 0 0, .ref 152, .int 82 0, .int 0 0, .ref 159, .int 89 0, .int 0 0, .ref 166, .int 93 0, .int 0 0, .ref 173, .int 97 0, .int 0 0, .ref 180, .int 101 0, .int 0 0, .ref 187, .int 105 0, .int 0 0, .ref 194, .int 110 0, .int 0 0, .ref 201, .int 116 0, .int 0 0, .ref 208, .int 122 0, .int 0 0, .ref 215, .int 133 0, .int 0 0, .ref 222, .int 148 0, .int 0 0, .ref 229, .int 156 0, .int 0 0, .ref 236, .int 163 0, .int 0 0, .ref 243, .int 173 0, .int 0 0, .ref 250, .int 181 0, .int 0 0, .ref 257], #[]⟩
noncomputable def o175 (P : Params) : Obj := ⟨.type "tuple", none, .seq #[] 0, #[]⟩
noncomputable def o176 (P : Params) : Obj := ⟨.none, none, .fields #[], #[]⟩
noncomputable def o177 (P : Params) : Obj := ⟨.type "tuple", none, .seq #[kS "u" 415, kS "v" 416] 0, #[]⟩
noncomputable def o178 (P : Params) : Obj := ⟨.type "tuple", none, .seq #[] 0, #[]⟩
noncomputable def o179 (P : Params) : Obj := ⟨.none, none, fD (st 23) (.ofString "mul") 0 [] .none .none .none .none none .none .none 0, #[]⟩
noncomputable def o180 (P : Params) : Obj := ⟨.type "code", none, .fields #[kS "mul" 412, kS "mul" 413, kS "/claim/cut.py" 414, .int 97 0, .int 2 0, .int 0 0, .int 0 0, .int 3 0, .ref 175, .bool true, .int 181 0, .ref 176, .none, .ref 177, .ref 178, .ref 179, .int 417 0, .int 97 0, kS "/claim/cut.py" 418], #[]⟩
noncomputable def o181 (P : Params) : Obj := ⟨.type "function", none, fD (st 23) (.ofString "mul") 3 [] .none .none .none (kS "gateloom.vecarith" 394) none (.ref 180) .none 0, #[]⟩
noncomputable def o182 (P : Params) : Obj := ⟨.type "tuple", none, .seq #[] 0, #[]⟩
noncomputable def o183 (P : Params) : Obj := ⟨.none, none, .fields #[], #[]⟩
noncomputable def o184 (P : Params) : Obj := ⟨.type "tuple", none, .seq #[kS "v" 423] 0, #[]⟩
noncomputable def o185 (P : Params) : Obj := ⟨.type "tuple", none, .seq #[] 0, #[]⟩
noncomputable def o186 (P : Params) : Obj := ⟨.none, none, fD (st 24) (.ofString "neg") 0 [] .none .none .none .none none .none .none 0, #[]⟩
noncomputable def o187 (P : Params) : Obj := ⟨.type "code", none, .fields #[kS "neg" 420, kS "neg" 421, kS "/claim/cut.py" 422, .int 101 0, .int 1 0, .int 0 0, .int 0 0, .int 3 0, .ref 182, .bool true, .int 181 0, .ref 183, .none, .ref 184, .ref 185, .ref 186, .int 424 0, .int 101 0, kS "/claim/cut.py" 425], #[]⟩
noncomputable def o188 (P : Params) : Obj := ⟨.type "function", none, fD (st 24) (.ofString "neg") 3 [] .none .none .none (kS "gateloom.vecarith" 394) none (.ref 187) .none 0, #[]⟩
noncomputable def o189 (P : Params) : Obj := ⟨.type "tuple", none, .seq #[] 0, #[]⟩
noncomputable def o190 (P : Params) : Obj := ⟨.none, none, .fields #[], #[]⟩
noncomputable def o191 (P : Params) : Obj := ⟨.type "tuple", none, .seq #[kS "m" 430, kS "n" 431, kS "found" 432] 0, #[]⟩
noncomputable def o192 (P : Params) : Obj := ⟨.type "tuple", none, .seq #[] 0, #[]⟩
noncomputable def o193 (P : Params) : Obj := ⟨.none, none, fD (st 25) (.ofString "quotient") 0 [] .none .none .none .none none .none .none 0, #[]⟩
noncomputable def o194 (P : Params) : Obj := ⟨.type "code", none, .fields #[kS "quotient" 427, kS "quotient" 428, kS "/claim/cut.py" 429, .int 105 0, .int 2 0, .int 0 0, .int 0 0, .int 3 0, .ref 189, .bool true, .int 181 0, .ref 190, .none, .ref 191, .ref 192, .ref 193, .int 433 0, .int 105 0, kS "/claim/cut.py" 434], #[]⟩
noncomputable def o195 (P : Params) : Obj := ⟨.type "function", none, fD (st 25) (.ofString "quotient") 3 [] .none .none .none (kS "gateloom.vecarith" 394) none (.ref 194) .none 0, #[]⟩
noncomputable def o196 (P : Params) : Obj := ⟨.type "tuple", none, .seq #[] 0, #[]⟩
noncomputable def o197 (P : Params) : Obj := ⟨.none, none, .fields #[], #[]⟩
noncomputable def o198 (P : Params) : Obj := ⟨.type "tuple", none, .seq #[kS "u" 439, kS "v" 440, kS "signed" 441, kS "m" 442, kS "n" 443] 0, #[]⟩
noncomputable def o199 (P : Params) : Obj := ⟨.type "tuple", none, .seq #[] 0, #[]⟩
noncomputable def o200 (P : Params) : Obj := ⟨.none, none, fD (st 26) (.ofString "div") 0 [] .none .none .none .none none .none .none 0, #[]⟩
noncomputable def o201 (P : Params) : Obj := ⟨.type "code", none, .fields #[kS "div" 436, kS "div" 437, kS "/claim/cut.py" 438, .int 110 0, .int 3 0, .int 0 0, .int 0 0, .int 3 0, .ref 196, .bool true, .int 181 0, .ref 197, .none, .ref 198, .ref 199, .ref 200, .int 444 0, .int 110 0, kS "/claim/cut.py" 445], #[]⟩
noncomputable def o202 (P : Params) : Obj := ⟨.type "function", none, fD (st 26) (.ofString "div") 3 [] .none .none .none (kS "gateloom.vecarith" 394) none (.ref 201) .none 0, #[]⟩
noncomputable def o203 (P : Params) : Obj := ⟨.type "tuple", none, .seq #[] 0, #[]⟩
noncomputable def o204 (P : Params) : Obj := ⟨.none, none, .fields #[], #[]⟩
noncomputable def o205 (P : Params) : Obj := ⟨.type "tuple", none, .seq #[kS "u" 450, kS "v" 451, kS "signed" 452, kS "m" 453, kS "n" 454] 0, #[]⟩
noncomputable def o206 (P : Params) : Obj := ⟨.type "tuple", none, .seq #[] 0, #[]⟩
noncomputable def o207 (P : Params) : Obj := ⟨.none, none, fD (st 27) (.ofString "mod") 0 [] .none .none .none .none none .none .none 0, #[]⟩
noncomputable def o208 (P : Params) : Obj := ⟨.type "code", none, .fields #[kS "mod" 447, kS "mod" 448, kS "/claim/cut.py" 449, .int 116 0, .int 3 0, .int 0 0, .int 0 0, .int 3 0, .ref 203, .bool true, .int 181 0, .ref 204, .none, .ref 205, .ref 206, .ref 207, .int 455 0, .int 116 0, kS "/claim/cut.py" 456], #[]⟩
noncomputable def o209 (P : Params) : Obj := ⟨.type "function", none, fD (st 27) (.ofString "mod") 3 [] .none .none .none (kS "gateloom.vecarith" 394) none (.ref 208) .none 0, #[]⟩
noncomputable def o210 (P : Params) : Obj := ⟨.type "tuple", none, .seq #[] 0, #[]⟩
noncomputable def o211 (P : Params) : Obj := ⟨.none, none, .fields #[], #[]⟩
noncomputable def o212 (P : Params) : Obj := ⟨.type "tuple", none, .seq #[kS "base" 461, kS "exponent" 462, kS "w" 463, kS "full" 464, kS "result" 465, kS "square" 466, kS "rest" 467] 0, #[]⟩
noncomputable def o213 (P : Params) : Obj := ⟨.type "tuple", none, .seq #[] 0, #[]⟩
noncomputable def o214 (P : Params) : Obj := ⟨.none, none, fD (st 28) (.ofString "raise_whole") 0 [] .none .none .none .none none .none .none 0, #[]⟩
noncomputable def o215 (P : Params) : Obj := ⟨.type "code", none, .fields #[kS "raise_whole" 458, kS "raise_whole" 459, kS "/claim/cut.py" 460, .int 122 0, .int 3 0, .int 0 0, .int 0 0, .int 3 0, .ref 210, .bool true, .int 181 0, .ref 211, .none, .ref 212, .ref 213, .ref 214, .int 468 0, .int 122 0, kS "/claim/cut.py" 469], #[]⟩
noncomputable def o216 (P : Params) : Obj := ⟨.type "function", none, fD (st 28) (.ofString "raise_whole") 3 [] .none .none .none (kS "gateloom.vecarith" 394) none (.ref 215) .none 0, #[]⟩
noncomputable def o217 (P : Params) : Obj := ⟨.type "tuple", none, .seq #[] 0, #[]⟩
noncomputable def o218 (P : Params) : Obj := ⟨.none, none, .fields #[], #[]⟩
noncomputable def o219 (P : Params) : Obj := ⟨.type "tuple", none, .seq #[kS "u" 474, kS "v" 475, kS "usigned" 476, kS "vsigned" 477, kS "w" 478, kS "base" 479, kS "exponent" 480] 0, #[]⟩
noncomputable def o220 (P : Params) : Obj := ⟨.type "tuple", none, .seq #[] 0, #[]⟩
noncomputable def o221 (P : Params) : Obj := ⟨.none, none, fD (st 29) (.ofString "power") 0 [] .none .none .none .none none .none .none 0, #[]⟩
noncomputable def o222 (P : Params) : Obj := ⟨.type "code", none, .fields #[kS "power" 471, kS "power" 472, kS "/claim/cut.py" 473, .int 133 0, .int 4 0, .int 0 0, .int 0 0, .int 3 0, .ref 217, .bool true, .int 181 0, .ref 218, .none, .ref 219, .ref 220, .ref 221, .int 481 0, .int 133 0, kS "/claim/cut.py" 482], #[]⟩
noncomputable def o223 (P : Params) : Obj := ⟨.type "function", none, fD (st 29) (.ofString "power") 3 [] .none .none .none (kS "gateloom.vecarith" 394) none (.ref 222) .none 0, #[]⟩
noncomputable def o224 (P : Params) : Obj := ⟨.type "tuple", none, .seq #[] 0, #[]⟩
noncomputable def o225 (P : Params) : Obj := ⟨.none, none, .fields #[], #[]⟩
noncomputable def o226 (P : Params) : Obj := ⟨.type "tuple", none, .seq #[kS "u" 487, kS "n" 488, kS "w" 489, kS "full" 490] 0, #[]⟩
noncomputable def o227 (P : Params) : Obj := ⟨.type "tuple", none, .seq #[] 0, #[]⟩
noncomputable def o228 (P : Params) : Obj := ⟨.none, none, fD (st 30) (.ofString "shift_left") 0 [] .none .none .none .none none .none .none 0, #[]⟩
noncomputable def o229 (P : Params) : Obj := ⟨.type "code", none, .fields #[kS "shift_left" 484, kS "shift_left" 485, kS "/claim/cut.py" 486, .int 148 0, .int 2 0, .int 0 0, .int 0 0, .int 3 0, .ref 224, .bool true, .int 181 0, .ref 225, .none, .ref 226, .ref 227, .ref 228, .int 491 0, .int 148 0, kS "/claim/cut.py" 492], #[]⟩
noncomputable def o230 (P : Params) : Obj := ⟨.type "function", none, fD (st 30) (.ofString "shift_left") 3 [] .none .none .none (kS "gateloom.vecarith" 394) none (.ref 229) .none 0, #[]⟩
noncomputable def o231 (P : Params) : Obj := ⟨.type "tuple", none, .seq #[] 0, #[]⟩
noncomputable def o232 (P : Params) : Obj := ⟨.none, none, .fields #[], #[]⟩
noncomputable def o233 (P : Params) : Obj := ⟨.type "tuple", none, .seq #[kS "u" 497, kS "n" 498, kS "w" 499] 0, #[]⟩
noncomputable def o234 (P : Params) : Obj := ⟨.type "tuple", none, .seq #[] 0, #[]⟩
noncomputable def o235 (P : Params) : Obj := ⟨.none, none, fD (st 31) (.ofString "shift_right") 0 [] .none .none .none .none none .none .none 0, #[]⟩
noncomputable def o236 (P : Params) : Obj := ⟨.type "code", none, .fields #[kS "shift_right" 494, kS "shift_right" 495, kS "/claim/cut.py" 496, .int 156 0, .int 2 0, .int 0 0, .int 0 0, .int 3 0, .ref 231, .bool true, .int 181 0, .ref 232, .none, .ref 233, .ref 234, .ref 235, .int 500 0, .int 156 0, kS "/claim/cut.py" 501], #[]⟩
noncomputable def o237 (P : Params) : Obj := ⟨.type "function", none, fD (st 31) (.ofString "shift_right") 3 [] .none .none .none (kS "gateloom.vecarith" 394) none (.ref 236) .none 0, #[]⟩
noncomputable def o238 (P : Params) : Obj := ⟨.type "tuple", none, .seq #[] 0, #[]⟩
noncomputable def o239 (P : Params) : Obj := ⟨.none, none, .fields #[], #[]⟩
noncomputable def o240 (P : Params) : Obj := ⟨.type "tuple", none, .seq #[kS "u" 506, kS "n" 507, kS "signed" 508, kS "w" 509, kS "count" 510, kS "fill" 511, kS "top" 512, kS "a" 513, kS "b" 514] 0, #[]⟩
noncomputable def o241 (P : Params) : Obj := ⟨.type "tuple", none, .seq #[] 0, #[]⟩
noncomputable def o242 (P : Params) : Obj := ⟨.none, none, fD (st 32) (.ofString "shift_arith") 0 [] .none .none .none .none none .none .none 0, #[]⟩
noncomputable def o243 (P : Params) : Obj := ⟨.type "code", none, .fields #[kS "shift_arith" 503, kS "shift_arith" 504, kS "/claim/cut.py" 505, .int 163 0, .int 3 0, .int 0 0, .int 0 0, .int 3 0, .ref 238, .bool true, .int 181 0, .ref 239, .none, .ref 240, .ref 241, .ref 242, .int 515 0, .int 163 0, kS "/claim/cut.py" 516], #[]⟩
noncomputable def o244 (P : Params) : Obj := ⟨.type "function", none, fD (st 32) (.ofString "shift_arith") 3 [] .none .none .none (kS "gateloom.vecarith" 394) none (.ref 243) .none 0, #[]⟩
noncomputable def o245 (P : Params) : Obj := ⟨.type "tuple", none, .seq #[] 0, #[]⟩
noncomputable def o246 (P : Params) : Obj := ⟨.none, none, .fields #[], #[]⟩
noncomputable def o247 (P : Params) : Obj := ⟨.type "tuple", none, .seq #[kS "u" 521, kS "v" 522, kS "signed" 523, kS "m" 524, kS "n" 525] 0, #[]⟩
noncomputable def o248 (P : Params) : Obj := ⟨.type "tuple", none, .seq #[] 0, #[]⟩
noncomputable def o249 (P : Params) : Obj := ⟨.none, none, fD (st 33) (.ofString "ordered") 0 [] .none .none .none .none none .none .none 0, #[]⟩
noncomputable def o250 (P : Params) : Obj := ⟨.type "code", none, .fields #[kS "ordered" 518, kS "ordered" 519, kS "/claim/cut.py" 520, .int 173 0, .int 3 0, .int 0 0, .int 0 0, .int 3 0, .ref 245, .bool true, .int 181 0, .ref 246, .none, .ref 247, .ref 248, .ref 249, .int 526 0, .int 173 0, kS "/claim/cut.py" 527], #[]⟩
noncomputable def o251 (P : Params) : Obj := ⟨.type "function", none, fD (st 33) (.ofString "ordered") 3 [] .none .none .none (kS "gateloom.vecarith" 394) none (.ref 250) .none 0, #[]⟩
noncomputable def o252 (P : Params) : Obj := ⟨.type "tuple", none, .seq #[] 0, #[]⟩
noncomputable def o253 (P : Params) : Obj := ⟨.none, none, .fields #[], #[]⟩
noncomputable def o254 (P : Params) : Obj := ⟨.type "tuple", none, .seq #[kS "u" 532, kS "v" 533, kS "signed" 534, kS "sign" 535] 0, #[]⟩
noncomputable def o255 (P : Params) : Obj := ⟨.type "tuple", none, .seq #[] 0, #[]⟩
noncomputable def o256 (P : Params) : Obj := ⟨.none, none, fD (st 34) (.ofString "less") 0 [] .none .none .none .none none .none .none 0, #[]⟩
noncomputable def o257 (P : Params) : Obj := ⟨.type "code", none, .fields #[kS "less" 529, kS "less" 530, kS "/claim/cut.py" 531, .int 181 0, .int 3 0, .int 0 0, .int 0 0, .int 3 0, .ref 252, .bool true, .int 181 0, .ref 253, .none, .ref 254, .ref 255, .ref 256, .int 536 0, .int 181 0, kS "/claim/cut.py" 537], #[]⟩
noncomputable def o258 (P : Params) : Obj := ⟨.type "function", none, fD (st 34) (.ofString "less") 3 [] .none .none .none (kS "gateloom.vecarith" 394) none (.ref 257) .none 0, #[]⟩
noncomputable def t4 (P : Params) : BT := .node (boot_o_0 P) (.node (boot_o_1 P) (.node (o3v4 P) (.node (boot_o_7 P) (.node (o15 P) (.node (o31 P) (.node (o63 P) (.node (o127 P) (.node (o255 P) (.nil) (.nil)) (.nil)) (.node (o191 P) (.nil) (.nil))) (.node (o95 P) (.node (o159 P) (.nil) (.nil)) (.node (o223 P) (.nil) (.nil)))) (.node (o47 P) (.node (o79 P) (.node (o143 P) (.nil) (.nil)) (.node (o207 P) (.nil) (.nil))) (.node (o111 P) (.node (o175 P) (.nil) (.nil)) (.node (o239 P) (.nil) (.nil))))) (.node (o23 P) (.node (o39v1 P) (.node (o71 P) (.node (o135 P) (.nil) (.nil)) (.node (o199 P) (.nil) (.nil))) (.node (o103 P) (.node (o167 P) (.nil) (.nil)) (.node (o231 P) (.nil) (.nil)))) (.node (o55 P) (.node (o87 P) (.node (o151 P) (.nil) (.nil)) (.node (o215 P) (.nil) (.nil))) (.node (o119 P) (.node (o183 P) (.nil) (.nil)) (.node (o247 P) (.nil) (.nil)))))) (.node (o11 P) (.node (o19 P) (.node (o35 P) (.node (o67 P) (.node (o131 P) (.nil) (.nil)) (.node (o195 P) (.nil) (.nil))) (.node (o99 P) (.node (o163 P) (.nil) (.nil)) (.node (o227 P) (.nil) (.nil)))) (.node (o51 P) (.node (o83 P) (.node (o147 P) (.nil) (.nil)) (.node (o211 P) (.nil) (.nil))) (.node (o115 P) (.node (o179 P) (.nil) (.nil)) (.node (o243 P) (.nil) (.nil))))) (.node (o27 P) (.node (o43 P) (.node (o75 P) (.node (o139 P) (.nil) (.nil)) (.node (o203 P) (.nil) (.nil))) (.node (o107 P) (.node (o171 P) (.nil) (.nil)) (.node (o235 P) (.nil) (.nil)))) (.node (o59 P) (.node (o91 P) (.node (o155 P) (.nil) (.nil)) (.node (o219 P) (.nil) (.nil))) (.node (o123 P) (.node (o187 P) (.nil) (.nil)) (.node (o251 P) (.nil) (.nil))))))) (.node (boot_o_5 P) (.node (boot_o_9 P) (.node (o17 P) (.node (o33 P) (.node (o65 P) (.node (o129 P) (.node (o257 P) (.nil) (.nil)) (.nil)) (.node (o193 P) (.nil) (.nil))) (.node (o97 P) (.node (o161 P) (.nil) (.nil)) (.node (o225 P) (.nil) (.nil)))) (.node (o49 P) (.node (o81 P) (.node (o145 P) (.nil) (.nil)) (.node (o209 P) (.nil) (.nil))) (.node (o113 P) (.node (o177 P) (.nil) (.nil)) (.node (o241 P) (.nil) (.nil))))) (.node (o25 P) (.node (o41 P) (.node (o73 P) (.node (o137 P) (.nil) (.nil)) (.node (o201 P) (.nil) (.nil))) (.node (o105 P) (.node (o169 P) (.nil) (.nil)) (.node (o233 P) (.nil) (.nil)))) (.node (o57 P) (.node (o89 P) (.node (o153 P) (.nil) (.nil)) (.node (o217 P) (.nil) (.nil))) (.node (o121 P) (.node (o185 P) (.nil) (.nil)) (.node (o249 P) (.nil) (.nil)))))) (.node (o13 P) (.node (o21 P) (.node (o37 P) (.node (o69 P) (.node (o133 P) (.nil) (.nil)) (.node (o197 P) (.nil) (.nil))) (.node (o101 P) (.node (o165 P) (.nil) (.nil)) (.node (o229 P) (.nil) (.nil)))) (.node (o53 P) (.node (o85 P) (.node (o149 P) (.nil) (.nil)) (.node (o213 P) (.nil) (.nil))) (.node (o117 P) (.node (o181 P) (.nil) (.nil)) (.node (o245 P) (.nil) (.nil))))) (.node (o29 P) (.node (o45 P) (.node (o77 P) (.node (o141 P) (.nil) (.nil)) (.node (o205 P) (.nil) (.nil))) (.node (o109 P) (.node (o173 P) (.nil) (.nil)) (.node (o237 P) (.nil) (.nil)))) (.node (o61 P) (.node (o93 P) (.node (o157 P) (.nil) (.nil)) (.node (o221 P) (.nil) (.nil))) (.node (o125 P) (.node (o189 P) (.nil) (.nil)) (.node (o253 P) (.nil) (.nil)))))))) (.node (o2v1 P) (.node (boot_o_4 P) (.node (boot_o_8 P) (.node (o16 P) (.node (o32 P) (.node (o64 P) (.node (o128 P) (.node (o256 P) (.nil) (.nil)) (.nil)) (.node (o192 P) (.nil) (.nil))) (.node (o96 P) (.node (o160 P) (.nil) (.nil)) (.node (o224 P) (.nil) (.nil)))) (.node (o48 P) (.node (o80 P) (.node (o144 P) (.nil) (.nil)) (.node (o208 P) (.nil) (.nil))) (.node (o112 P) (.node (o176 P) (.nil) (.nil)) (.node (o240 P) (.nil) (.nil))))) (.node (o24 P) (.node (o40 P) (.node (o72 P) (.node (o136 P) (.nil) (.nil)) (.node (o200 P) (.nil) (.nil))) (.node (o104 P) (.node (o168 P) (.nil) (.nil)) (.node (o232 P) (.nil) (.nil)))) (.node (o56 P) (.node (o88 P) (.node (o152 P) (.nil) (.nil)) (.node (o216 P) (.nil) (.nil))) (.node (o120 P) (.node (o184 P) (.nil) (.nil)) (.node (o248 P) (.nil) (.nil)))))) (.node (o12v4 P) (.node (o20 P) (.node (o36 P) (.node (o68 P) (.node (o132 P) (.nil) (.nil)) (.node (o196 P) (.nil) (.nil))) (.node (o100 P) (.node (o164 P) (.nil) (.nil)) (.node (o228 P) (.nil) (.nil)))) (.node (o52 P) (.node (o84 P) (.node (o148 P) (.nil) (.nil)) (.node (o212 P) (.nil) (.nil))) (.node (o116 P) (.node (o180 P) (.nil) (.nil)) (.node (o244 P) (.nil) (.nil))))) (.node (o28 P) (.node (o44 P) (.node (o76 P) (.node (o140 P) (.nil) (.nil)) (.node (o204 P) (.nil) (.nil))) (.node (o108 P) (.node (o172 P) (.nil) (.nil)) (.node (o236 P) (.nil) (.nil)))) (.node (o60 P) (.node (o92 P) (.node (o156 P) (.nil) (.nil)) (.node (o220 P) (.nil) (.nil))) (.node (o124 P) (.node (o188 P) (.nil) (.nil)) (.node (o252 P) (.nil) (.nil))))))) (.node (boot_o_6 P) (.node (boot_o_10 P) (.node (o18 P) (.node (o34 P) (.node (o66 P) (.node (o130 P) (.node (o258 P) (.nil) (.nil)) (.nil)) (.node (o194 P) (.nil) (.nil))) (.node (o98 P) (.node (o162 P) (.nil) (.nil)) (.node (o226 P) (.nil) (.nil)))) (.node (o50 P) (.node (o82 P) (.node (o146 P) (.nil) (.nil)) (.node (o210 P) (.nil) (.nil))) (.node (o114 P) (.node (o178 P) (.nil) (.nil)) (.node (o242 P) (.nil) (.nil))))) (.node (o26 P) (.node (o42 P) (.node (o74 P) (.node (o138 P) (.nil) (.nil)) (.node (o202 P) (.nil) (.nil))) (.node (o106 P) (.node (o170 P) (.nil) (.nil)) (.node (o234 P) (.nil) (.nil)))) (.node (o58 P) (.node (o90 P) (.node (o154 P) (.nil) (.nil)) (.node (o218 P) (.nil) (.nil))) (.node (o122 P) (.node (o186 P) (.nil) (.nil)) (.node (o250 P) (.nil) (.nil)))))) (.node (o14 P) (.node (o22 P) (.node (o38 P) (.node (o70 P) (.node (o134 P) (.nil) (.nil)) (.node (o198 P) (.nil) (.nil))) (.node (o102 P) (.node (o166 P) (.nil) (.nil)) (.node (o230 P) (.nil) (.nil)))) (.node (o54 P) (.node (o86 P) (.node (o150 P) (.nil) (.nil)) (.node (o214 P) (.nil) (.nil))) (.node (o118 P) (.node (o182 P) (.nil) (.nil)) (.node (o246 P) (.nil) (.nil))))) (.node (o30 P) (.node (o46 P) (.node (o78 P) (.node (o142 P) (.nil) (.nil)) (.node (o206 P) (.nil) (.nil))) (.node (o110 P) (.node (o174 P) (.nil) (.nil)) (.node (o238 P) (.nil) (.nil)))) (.node (o62 P) (.node (o94 P) (.node (o158 P) (.nil) (.nil)) (.node (o222 P) (.nil) (.nil))) (.node (o126 P) (.node (o190 P) (.nil) (.nil)) (.node (o254 P) (.nil) (.nil))))))))
noncomputable def g3 : List Stmt := [st 23, st 24, st 25, st 26, st 27, st 28, st 29, st 30, st 31, st 32, st 33, st 34]
noncomputable abbrev S4 (w : World) (os : OsState) : SharedT := ⟨t4 w.params, 259, {}, #[], {}, 539, os⟩
theorem pc3 (w : World) (os : OsState) : segRun treeTable PW w 11 an0 1 392 (S3 w os).abs (piecesOf g3 env0 cE ⟨93, 0, 96, 38⟩ fr0) = some (.next, (S4 w os).abs, cE, ⟨181, 0, 185, 39⟩) := by
  refine segRun_of ?_
  rewrite [TE_segRunT, TE_tree]
  kernel_rfl
noncomputable def o3v5 (P : Params) : Obj := ⟨.type "dict", none, .dict #[kE P "__name__" 165 (kS "gateloom.vecops" 567), kE P "__doc__" 166 .none, kE P "__package__" 167 .none, kE P "__loader__" 168 (.builtin "__main__.__loader__#opaque"), kE P "__spec__" 169 .none, kE P "__annotations__" 170 (.ref 6), kE P "__builtins__" 171 (.ref 4), kE P "__file__" 173 (kS "/claim/cut.py" 172), kE P "__cached__" 174 .none, kE P "_wall" 193 (.ref 21), kE P "GateloomError" 231 (.ref 39), kE P "DesignError" 247 (.ref 52), kE P "mask" 256 (.ref 61), kE P "vec" 267 (.ref 69), kE P "zeros" 274 (.ref 76), kE P "all_x" 282 (.ref 83), kE P "all_z" 289 (.ref 90), kE P "from_int" 297 (.ref 97), kE P "is_known" 304 (.ref 104), kE P "to_int" 315 (.ref 111), kE P "code" 323 (.ref 118), kE P "slice_vec" 339 (.ref 125), kE P "put_slice" 355 (.ref 132), kE P "concat" 366 (.ref 139), kE P "extend" 379 (.ref 146), kE P "z_to_x" 386 (.ref 153), kE P "truth" 393 (.ref 160), kE P "add" 403 (.ref 167), kE P "sub" 411 (.ref 174), kE P "mul" 419 (.ref 181), kE P "neg" 426 (.ref 188), kE P "quotient" 435 (.ref 195), kE P "div" 446 (.ref 202), kE P "mod" 457 (.ref 209), kE P "raise_whole" 470 (.ref 216), kE P "power" 483 (.ref 223), kE P "shift_left" 493 (.ref 230), kE P "shift_right" 502 (.ref 237), kE P "shift_arith" 517 (.ref 244), kE P "ordered" 528 (.ref 251), kE P "less" 538 (.ref 258), kE P "less_equal" 548 (.ref 265), kE P "greater" 557 (.ref 272), kE P "greater_equal" 566 (.ref 279), kE P "one_bit" 575 (.ref 286), kE P "bit_not" 585 (.ref 293), kE P "bit_and" 599 (.ref 300), kE P "bit_or" 614 (.ref 307), kE P "bit_xor" 623 (.ref 314), kE P "bit_xnor" 631 (.ref 321), kE P "reduce_and" 641 (.ref 328), kE P "reduce_nand" 648 (.ref 335), kE P "reduce_or" 655 (.ref 342)] 53, #[]⟩
noncomputable def o12v5 (P : Params) : Obj := ⟨.none, none, .fields #[.int 1 0, .int 0 0, .ref 20, .int 5 0, .int 0 0, .ref 27, .int 11 0, .int 0 0, .ref 48, .int 14 0, .int 0 0, .ref 60, .int 16 0, .int 0 0, .ref 68, .int 19 0, .int 0 0, .ref 75, .int 21 0, .int 0 0, .ref 82, .int 24 0, .int 0 0, .ref 89, .int 26 0, .int 0 0, .ref 96, .int 28 0, .int 0 0, .ref 103, .int 30 0, .int 0 0, .ref 110, .int 37 0, .int 0 0, .ref 117, .int 39 0, .int 0 0, .ref 124, .int 50 0, .int 0 0, .ref 131, .int 61 0, .int 0 0, .ref 138, .int 70 0, .int 0 0, .ref 145, .int 80 0, .int 0 0, .ref 152, .int 82 0, .int 0 0, .ref 159, .int 89 0, .int 0 0, .ref 166, .int 93 0, .int 0 0, .ref 173, .int 97 0, .int 0 0, .ref 180, .int 101 0, .int 0 0, .ref 187, .int 105 0, .int 0 0, .ref 194, .int 110 0, .int 0 0, .ref 201, .int 116 0, .int 0 0, .ref 208, .int 122 0, .int 0 0, .ref 215, .int 133 0, .int 0 0, .ref 222, .int 148 0, .int 0 0, .ref 229, .int 156 0, .int 0 0, .ref 236, .int 163 0, .int 0 0, .ref 243, .int 173 0, .int 0 0, .ref 250, .int 181 0, .int 0 0, .ref 257, .int 186 0, .int 0 0, .ref 264, .int 191 0, .int 0 0, .ref 271, .int 193 0, .int 0 0, .ref 278, .int 196 0, .int 0 0, .ref 285, .int 198 0, .int 0 0, .ref 292, .int 201 0, .int 0 0, .ref 299, .int 206 0, .int 0 0, .ref 306, .int 212 0, .int 0 0, .ref 313, .int 215 0, .int 0 0, .ref 320, .int 217 0, .int 0 0, .ref 327, .int 222 0, .int 0 0, .ref 334, .int 224 0, .int 0 0, .ref 341], #[]⟩
noncomputable def o259 (P : Params) : Obj := ⟨.type "tuple", none, .seq #[] 0, #[]⟩
noncomputable def o260 (P : Params) : Obj := ⟨.none, none, .fields #[], #[]⟩
noncomputable def o261 (P : Params) : Obj := ⟨.type "tuple", none, .seq #[kS "u" 542, kS "v" 543, kS "signed" 544, kS "sign" 545] 0, #[]⟩
noncomputable def o262 (P : Params) : Obj := ⟨.type "tuple", none, .seq #[] 0, #[]⟩
noncomputable def o263 (P : Params) : Obj := ⟨.none, none, fD (st 35) (.ofString "less_equal") 0 [] .none .none .none .none none .none .none 0, #[]⟩
noncomputable def o264 (P : Params) : Obj := ⟨.type "code", none, .fields #[kS "less_equal" 539, kS "less_equal" 540, kS "/claim/cut.py" 541, .int 186 0, .int 3 0, .int 0 0, .int 0 0, .int 3 0, .ref 259, .bool true, .int 181 0, .ref 260, .none, .ref 261, .ref 262, .ref 263, .int 546 0, .int 186 0, kS "/claim/cut.py" 547], #[]⟩
noncomputable def o265 (P : Params) : Obj := ⟨.type "function", none, fD (st 35) (.ofString "less_equal") 3 [] .none .none .none (kS "gateloom.vecarith" 394) none (.ref 264) .none 0, #[]⟩
noncomputable def o266 (P : Params) : Obj := ⟨.type "tuple", none, .seq #[] 0, #[]⟩
noncomputable def o267 (P : Params) : Obj := ⟨.none, none, .fields #[], #[]⟩
noncomputable def o268 (P : Params) : Obj := ⟨.type "tuple", none, .seq #[kS "u" 552, kS "v" 553, kS "signed" 554] 0, #[]⟩
noncomputable def o269 (P : Params) : Obj := ⟨.type "tuple", none, .seq #[] 0, #[]⟩
noncomputable def o270 (P : Params) : Obj := ⟨.none, none, fD (st 36) (.ofString "greater") 0 [] .none .none .none .none none .none .none 0, #[]⟩
noncomputable def o271 (P : Params) : Obj := ⟨.type "code", none, .fields #[kS "greater" 549, kS "greater" 550, kS "/claim/cut.py" 551, .int 191 0, .int 3 0, .int 0 0, .int 0 0, .int 3 0, .ref 266, .bool true, .int 181 0, .ref 267, .none, .ref 268, .ref 269, .ref 270, .int 555 0, .int 191 0, kS "/claim/cut.py" 556], #[]⟩
noncomputable def o272 (P : Params) : Obj := ⟨.type "function", none, fD (st 36) (.ofString "greater") 3 [] .none .none .none (kS "gateloom.vecarith" 394) none (.ref 271) .none 0, #[]⟩
noncomputable def o273 (P : Params) : Obj := ⟨.type "tuple", none, .seq #[] 0, #[]⟩
noncomputable def o274 (P : Params) : Obj := ⟨.none, none, .fields #[], #[]⟩
noncomputable def o275 (P : Params) : Obj := ⟨.type "tuple", none, .seq #[kS "u" 561, kS "v" 562, kS "signed" 563] 0, #[]⟩
noncomputable def o276 (P : Params) : Obj := ⟨.type "tuple", none, .seq #[] 0, #[]⟩
noncomputable def o277 (P : Params) : Obj := ⟨.none, none, fD (st 37) (.ofString "greater_equal") 0 [] .none .none .none .none none .none .none 0, #[]⟩
noncomputable def o278 (P : Params) : Obj := ⟨.type "code", none, .fields #[kS "greater_equal" 558, kS "greater_equal" 559, kS "/claim/cut.py" 560, .int 193 0, .int 3 0, .int 0 0, .int 0 0, .int 3 0, .ref 273, .bool true, .int 181 0, .ref 274, .none, .ref 275, .ref 276, .ref 277, .int 564 0, .int 193 0, kS "/claim/cut.py" 565], #[]⟩
noncomputable def o279 (P : Params) : Obj := ⟨.type "function", none, fD (st 37) (.ofString "greater_equal") 3 [] .none .none .none (kS "gateloom.vecarith" 394) none (.ref 278) .none 0, #[]⟩
noncomputable def o280 (P : Params) : Obj := ⟨.type "tuple", none, .seq #[] 0, #[]⟩
noncomputable def o281 (P : Params) : Obj := ⟨.none, none, .fields #[], #[]⟩
noncomputable def o282 (P : Params) : Obj := ⟨.type "tuple", none, .seq #[kS "c" 572] 0, #[]⟩
noncomputable def o283 (P : Params) : Obj := ⟨.type "tuple", none, .seq #[] 0, #[]⟩
noncomputable def o284 (P : Params) : Obj := ⟨.none, none, fD (st 39) (.ofString "one_bit") 0 [] .none .none .none .none none .none .none 0, #[]⟩
noncomputable def o285 (P : Params) : Obj := ⟨.type "code", none, .fields #[kS "one_bit" 569, kS "one_bit" 570, kS "/claim/cut.py" 571, .int 196 0, .int 1 0, .int 0 0, .int 0 0, .int 3 0, .ref 280, .bool true, .int 181 0, .ref 281, .none, .ref 282, .ref 283, .ref 284, .int 573 0, .int 196 0, kS "/claim/cut.py" 574], #[]⟩
noncomputable def o286 (P : Params) : Obj := ⟨.type "function", none, fD (st 39) (.ofString "one_bit") 3 [] .none .none .none (kS "gateloom.vecops" 567) none (.ref 285) .none 0, #[]⟩
noncomputable def o287 (P : Params) : Obj := ⟨.type "tuple", none, .seq #[] 0, #[]⟩
noncomputable def o288 (P : Params) : Obj := ⟨.none, none, .fields #[], #[]⟩
noncomputable def o289 (P : Params) : Obj := ⟨.type "tuple", none, .seq #[kS "v" 579, kS "w" 580, kS "a" 581, kS "b" 582] 0, #[]⟩
noncomputable def o290 (P : Params) : Obj := ⟨.type "tuple", none, .seq #[] 0, #[]⟩
noncomputable def o291 (P : Params) : Obj := ⟨.none, none, fD (st 40) (.ofString "bit_not") 0 [] .none .none .none .none none .none .none 0, #[]⟩
noncomputable def o292 (P : Params) : Obj := ⟨.type "code", none, .fields #[kS "bit_not" 576, kS "bit_not" 577, kS "/claim/cut.py" 578, .int 198 0, .int 1 0, .int 0 0, .int 0 0, .int 3 0, .ref 287, .bool true, .int 181 0, .ref 288, .none, .ref 289, .ref 290, .ref 291, .int 583 0, .int 198 0, kS "/claim/cut.py" 584], #[]⟩
noncomputable def o293 (P : Params) : Obj := ⟨.type "function", none, fD (st 40) (.ofString "bit_not") 3 [] .none .none .none (kS "gateloom.vecops" 567) none (.ref 292) .none 0, #[]⟩
noncomputable def o294 (P : Params) : Obj := ⟨.type "tuple", none, .seq #[] 0, #[]⟩
noncomputable def o295 (P : Params) : Obj := ⟨.none, none, .fields #[], #[]⟩
noncomputable def o296 (P : Params) : Obj := ⟨.type "tuple", none, .seq #[kS "u" 589, kS "v" 590, kS "w" 591, kS "a" 592, kS "b" 593, kS "c" 594, kS "d" 595, kS "both" 596] 0, #[]⟩
noncomputable def o297 (P : Params) : Obj := ⟨.type "tuple", none, .seq #[] 0, #[]⟩
noncomputable def o298 (P : Params) : Obj := ⟨.none, none, fD (st 41) (.ofString "bit_and") 0 [] .none .none .none .none none .none .none 0, #[]⟩
noncomputable def o299 (P : Params) : Obj := ⟨.type "code", none, .fields #[kS "bit_and" 586, kS "bit_and" 587, kS "/claim/cut.py" 588, .int 201 0, .int 2 0, .int 0 0, .int 0 0, .int 3 0, .ref 294, .bool true, .int 181 0, .ref 295, .none, .ref 296, .ref 297, .ref 298, .int 597 0, .int 201 0, kS "/claim/cut.py" 598], #[]⟩
noncomputable def o300 (P : Params) : Obj := ⟨.type "function", none, fD (st 41) (.ofString "bit_and") 3 [] .none .none .none (kS "gateloom.vecops" 567) none (.ref 299) .none 0, #[]⟩
noncomputable def o301 (P : Params) : Obj := ⟨.type "tuple", none, .seq #[] 0, #[]⟩
noncomputable def o302 (P : Params) : Obj := ⟨.none, none, .fields #[], #[]⟩
noncomputable def o303 (P : Params) : Obj := ⟨.type "tuple", none, .seq #[kS "u" 603, kS "v" 604, kS "w" 605, kS "a" 606, kS "b" 607, kS "c" 608, kS "d" 609, kS "either" 610, kS "sure" 611] 0, #[]⟩
noncomputable def o304 (P : Params) : Obj := ⟨.type "tuple", none, .seq #[] 0, #[]⟩
noncomputable def o305 (P : Params) : Obj := ⟨.none, none, fD (st 42) (.ofString "bit_or") 0 [] .none .none .none .none none .none .none 0, #[]⟩
noncomputable def o306 (P : Params) : Obj := ⟨.type "code", none, .fields #[kS "bit_or" 600, kS "bit_or" 601, kS "/claim/cut.py" 602, .int 206 0, .int 2 0, .int 0 0, .int 0 0, .int 3 0, .ref 301, .bool true, .int 181 0, .ref 302, .none, .ref 303, .ref 304, .ref 305, .int 612 0, .int 206 0, kS "/claim/cut.py" 613], #[]⟩
noncomputable def o307 (P : Params) : Obj := ⟨.type "function", none, fD (st 42) (.ofString "bit_or") 3 [] .none .none .none (kS "gateloom.vecops" 567) none (.ref 306) .none 0, #[]⟩
noncomputable def o308 (P : Params) : Obj := ⟨.type "tuple", none, .seq #[] 0, #[]⟩
noncomputable def o309 (P : Params) : Obj := ⟨.none, none, .fields #[], #[]⟩
noncomputable def o310 (P : Params) : Obj := ⟨.type "tuple", none, .seq #[kS "u" 618, kS "v" 619, kS "b" 620] 0, #[]⟩
noncomputable def o311 (P : Params) : Obj := ⟨.type "tuple", none, .seq #[] 0, #[]⟩
noncomputable def o312 (P : Params) : Obj := ⟨.none, none, fD (st 43) (.ofString "bit_xor") 0 [] .none .none .none .none none .none .none 0, #[]⟩
noncomputable def o313 (P : Params) : Obj := ⟨.type "code", none, .fields #[kS "bit_xor" 615, kS "bit_xor" 616, kS "/claim/cut.py" 617, .int 212 0, .int 2 0, .int 0 0, .int 0 0, .int 3 0, .ref 308, .bool true, .int 181 0, .ref 309, .none, .ref 310, .ref 311, .ref 312, .int 621 0, .int 212 0, kS "/claim/cut.py" 622], #[]⟩
noncomputable def o314 (P : Params) : Obj := ⟨.type "function", none, fD (st 43) (.ofString "bit_xor") 3 [] .none .none .none (kS "gateloom.vecops" 567) none (.ref 313) .none 0, #[]⟩
noncomputable def o315 (P : Params) : Obj := ⟨.type "tuple", none, .seq #[] 0, #[]⟩
noncomputable def o316 (P : Params) : Obj := ⟨.none, none, .fields #[], #[]⟩
noncomputable def o317 (P : Params) : Obj := ⟨.type "tuple", none, .seq #[kS "u" 627, kS "v" 628] 0, #[]⟩
noncomputable def o318 (P : Params) : Obj := ⟨.type "tuple", none, .seq #[] 0, #[]⟩
noncomputable def o319 (P : Params) : Obj := ⟨.none, none, fD (st 44) (.ofString "bit_xnor") 0 [] .none .none .none .none none .none .none 0, #[]⟩
noncomputable def o320 (P : Params) : Obj := ⟨.type "code", none, .fields #[kS "bit_xnor" 624, kS "bit_xnor" 625, kS "/claim/cut.py" 626, .int 215 0, .int 2 0, .int 0 0, .int 0 0, .int 3 0, .ref 315, .bool true, .int 181 0, .ref 316, .none, .ref 317, .ref 318, .ref 319, .int 629 0, .int 215 0, kS "/claim/cut.py" 630], #[]⟩
noncomputable def o321 (P : Params) : Obj := ⟨.type "function", none, fD (st 44) (.ofString "bit_xnor") 3 [] .none .none .none (kS "gateloom.vecops" 567) none (.ref 320) .none 0, #[]⟩
noncomputable def o322 (P : Params) : Obj := ⟨.type "tuple", none, .seq #[] 0, #[]⟩
noncomputable def o323 (P : Params) : Obj := ⟨.none, none, .fields #[], #[]⟩
noncomputable def o324 (P : Params) : Obj := ⟨.type "tuple", none, .seq #[kS "v" 635, kS "w" 636, kS "a" 637, kS "b" 638] 0, #[]⟩
noncomputable def o325 (P : Params) : Obj := ⟨.type "tuple", none, .seq #[] 0, #[]⟩
noncomputable def o326 (P : Params) : Obj := ⟨.none, none, fD (st 45) (.ofString "reduce_and") 0 [] .none .none .none .none none .none .none 0, #[]⟩
noncomputable def o327 (P : Params) : Obj := ⟨.type "code", none, .fields #[kS "reduce_and" 632, kS "reduce_and" 633, kS "/claim/cut.py" 634, .int 217 0, .int 1 0, .int 0 0, .int 0 0, .int 3 0, .ref 322, .bool true, .int 181 0, .ref 323, .none, .ref 324, .ref 325, .ref 326, .int 639 0, .int 217 0, kS "/claim/cut.py" 640], #[]⟩
noncomputable def o328 (P : Params) : Obj := ⟨.type "function", none, fD (st 45) (.ofString "reduce_and") 3 [] .none .none .none (kS "gateloom.vecops" 567) none (.ref 327) .none 0, #[]⟩
noncomputable def o329 (P : Params) : Obj := ⟨.type "tuple", none, .seq #[] 0, #[]⟩
noncomputable def o330 (P : Params) : Obj := ⟨.none, none, .fields #[], #[]⟩
noncomputable def o331 (P : Params) : Obj := ⟨.type "tuple", none, .seq #[kS "v" 645] 0, #[]⟩
noncomputable def o332 (P : Params) : Obj := ⟨.type "tuple", none, .seq #[] 0, #[]⟩
noncomputable def o333 (P : Params) : Obj := ⟨.none, none, fD (st 46) (.ofString "reduce_nand") 0 [] .none .none .none .none none .none .none 0, #[]⟩
noncomputable def o334 (P : Params) : Obj := ⟨.type "code", none, .fields #[kS "reduce_nand" 642, kS "reduce_nand" 643, kS "/claim/cut.py" 644, .int 222 0, .int 1 0, .int 0 0, .int 0 0, .int 3 0, .ref 329, .bool true, .int 181 0, .ref 330, .none, .ref 331, .ref 332, .ref 333, .int 646 0, .int 222 0, kS "/claim/cut.py" 647], #[]⟩
noncomputable def o335 (P : Params) : Obj := ⟨.type "function", none, fD (st 46) (.ofString "reduce_nand") 3 [] .none .none .none (kS "gateloom.vecops" 567) none (.ref 334) .none 0, #[]⟩
noncomputable def o336 (P : Params) : Obj := ⟨.type "tuple", none, .seq #[] 0, #[]⟩
noncomputable def o337 (P : Params) : Obj := ⟨.none, none, .fields #[], #[]⟩
noncomputable def o338 (P : Params) : Obj := ⟨.type "tuple", none, .seq #[kS "v" 652] 0, #[]⟩
noncomputable def o339 (P : Params) : Obj := ⟨.type "tuple", none, .seq #[] 0, #[]⟩
noncomputable def o340 (P : Params) : Obj := ⟨.none, none, fD (st 47) (.ofString "reduce_or") 0 [] .none .none .none .none none .none .none 0, #[]⟩
noncomputable def o341 (P : Params) : Obj := ⟨.type "code", none, .fields #[kS "reduce_or" 649, kS "reduce_or" 650, kS "/claim/cut.py" 651, .int 224 0, .int 1 0, .int 0 0, .int 0 0, .int 3 0, .ref 336, .bool true, .int 181 0, .ref 337, .none, .ref 338, .ref 339, .ref 340, .int 653 0, .int 224 0, kS "/claim/cut.py" 654], #[]⟩
noncomputable def o342 (P : Params) : Obj := ⟨.type "function", none, fD (st 47) (.ofString "reduce_or") 3 [] .none .none .none (kS "gateloom.vecops" 567) none (.ref 341) .none 0, #[]⟩
noncomputable def t5 (P : Params) : BT := .node (boot_o_0 P) (.node (boot_o_1 P) (.node (o3v5 P) (.node (boot_o_7 P) (.node (o15 P) (.node (o31 P) (.node (o63 P) (.node (o127 P) (.node (o255 P) (.nil) (.nil)) (.nil)) (.node (o191 P) (.node (o319 P) (.nil) (.nil)) (.nil))) (.node (o95 P) (.node (o159 P) (.node (o287 P) (.nil) (.nil)) (.nil)) (.node (o223 P) (.nil) (.nil)))) (.node (o47 P) (.node (o79 P) (.node (o143 P) (.node (o271 P) (.nil) (.nil)) (.nil)) (.node (o207 P) (.node (o335 P) (.nil) (.nil)) (.nil))) (.node (o111 P) (.node (o175 P) (.node (o303 P) (.nil) (.nil)) (.nil)) (.node (o239 P) (.nil) (.nil))))) (.node (o23 P) (.node (o39v1 P) (.node (o71 P) (.node (o135 P) (.node (o263 P) (.nil) (.nil)) (.nil)) (.node (o199 P) (.node (o327 P) (.nil) (.nil)) (.nil))) (.node (o103 P) (.node (o167 P) (.node (o295 P) (.nil) (.nil)) (.nil)) (.node (o231 P) (.nil) (.nil)))) (.node (o55 P) (.node (o87 P) (.node (o151 P) (.node (o279 P) (.nil) (.nil)) (.nil)) (.node (o215 P) (.nil) (.nil))) (.node (o119 P) (.node (o183 P) (.node (o311 P) (.nil) (.nil)) (.nil)) (.node (o247 P) (.nil) (.nil)))))) (.node (o11 P) (.node (o19 P) (.node (o35 P) (.node (o67 P) (.node (o131 P) (.node (o259 P) (.nil) (.nil)) (.nil)) (.node (o195 P) (.node (o323 P) (.nil) (.nil)) (.nil))) (.node (o99 P) (.node (o163 P) (.node (o291 P) (.nil) (.nil)) (.nil)) (.node (o227 P) (.nil) (.nil)))) (.node (o51 P) (.node (o83 P) (.node (o147 P) (.node (o275 P) (.nil) (.nil)) (.nil)) (.node (o211 P) (.node (o339 P) (.nil) (.nil)) (.nil))) (.node (o115 P) (.node (o179 P) (.node (o307 P) (.nil) (.nil)) (.nil)) (.node (o243 P) (.nil) (.nil))))) (.node (o27 P) (.node (o43 P) (.node (o75 P) (.node (o139 P) (.node (o267 P) (.nil) (.nil)) (.nil)) (.node (o203 P) (.node (o331 P) (.nil) (.nil)) (.nil))) (.node (o107 P) (.node (o171 P) (.node (o299 P) (.nil) (.nil)) (.nil)) (.node (o235 P) (.nil) (.nil)))) (.node (o59 P) (.node (o91 P) (.node (o155 P) (.node (o283 P) (.nil) (.nil)) (.nil)) (.node (o219 P) (.nil) (.nil))) (.node (o123 P) (.node (o187 P) (.node (o315 P) (.nil) (.nil)) (.nil)) (.node (o251 P) (.nil) (.nil))))))) (.node (boot_o_5 P) (.node (boot_o_9 P) (.node (o17 P) (.node (o33 P) (.node (o65 P) (.node (o129 P) (.node (o257 P) (.nil) (.nil)) (.nil)) (.node (o193 P) (.node (o321 P) (.nil) (.nil)) (.nil))) (.node (o97 P) (.node (o161 P) (.node (o289 P) (.nil) (.nil)) (.nil)) (.node (o225 P) (.nil) (.nil)))) (.node (o49 P) (.node (o81 P) (.node (o145 P) (.node (o273 P) (.nil) (.nil)) (.nil)) (.node (o209 P) (.node (o337 P) (.nil) (.nil)) (.nil))) (.node (o113 P) (.node (o177 P) (.node (o305 P) (.nil) (.nil)) (.nil)) (.node (o241 P) (.nil) (.nil))))) (.node (o25 P) (.node (o41 P) (.node (o73 P) (.node (o137 P) (.node (o265 P) (.nil) (.nil)) (.nil)) (.node (o201 P) (.node (o329 P) (.nil) (.nil)) (.nil))) (.node (o105 P) (.node (o169 P) (.node (o297 P) (.nil) (.nil)) (.nil)) (.node (o233 P) (.nil) (.nil)))) (.node (o57 P) (.node (o89 P) (.node (o153 P) (.node (o281 P) (.nil) (.nil)) (.nil)) (.node (o217 P) (.nil) (.nil))) (.node (o121 P) (.node (o185 P) (.node (o313 P) (.nil) (.nil)) (.nil)) (.node (o249 P) (.nil) (.nil)))))) (.node (o13 P) (.node (o21 P) (.node (o37 P) (.node (o69 P) (.node (o133 P) (.node (o261 P) (.nil) (.nil)) (.nil)) (.node (o197 P) (.node (o325 P) (.nil) (.nil)) (.nil))) (.node (o101 P) (.node (o165 P) (.node (o293 P) (.nil) (.nil)) (.nil)) (.node (o229 P) (.nil) (.nil)))) (.node (o53 P) (.node (o85 P) (.node (o149 P) (.node (o277 P) (.nil) (.nil)) (.nil)) (.node (o213 P) (.node (o341 P) (.nil) (.nil)) (.nil))) (.node (o117 P) (.node (o181 P) (.node (o309 P) (.nil) (.nil)) (.nil)) (.node (o245 P) (.nil) (.nil))))) (.node (o29 P) (.node (o45 P) (.node (o77 P) (.node (o141 P) (.node (o269 P) (.nil) (.nil)) (.nil)) (.node (o205 P) (.node (o333 P) (.nil) (.nil)) (.nil))) (.node (o109 P) (.node (o173 P) (.node (o301 P) (.nil) (.nil)) (.nil)) (.node (o237 P) (.nil) (.nil)))) (.node (o61 P) (.node (o93 P) (.node (o157 P) (.node (o285 P) (.nil) (.nil)) (.nil)) (.node (o221 P) (.nil) (.nil))) (.node (o125 P) (.node (o189 P) (.node (o317 P) (.nil) (.nil)) (.nil)) (.node (o253 P) (.nil) (.nil)))))))) (.node (o2v1 P) (.node (boot_o_4 P) (.node (boot_o_8 P) (.node (o16 P) (.node (o32 P) (.node (o64 P) (.node (o128 P) (.node (o256 P) (.nil) (.nil)) (.nil)) (.node (o192 P) (.node (o320 P) (.nil) (.nil)) (.nil))) (.node (o96 P) (.node (o160 P) (.node (o288 P) (.nil) (.nil)) (.nil)) (.node (o224 P) (.nil) (.nil)))) (.node (o48 P) (.node (o80 P) (.node (o144 P) (.node (o272 P) (.nil) (.nil)) (.nil)) (.node (o208 P) (.node (o336 P) (.nil) (.nil)) (.nil))) (.node (o112 P) (.node (o176 P) (.node (o304 P) (.nil) (.nil)) (.nil)) (.node (o240 P) (.nil) (.nil))))) (.node (o24 P) (.node (o40 P) (.node (o72 P) (.node (o136 P) (.node (o264 P) (.nil) (.nil)) (.nil)) (.node (o200 P) (.node (o328 P) (.nil) (.nil)) (.nil))) (.node (o104 P) (.node (o168 P) (.node (o296 P) (.nil) (.nil)) (.nil)) (.node (o232 P) (.nil) (.nil)))) (.node (o56 P) (.node (o88 P) (.node (o152 P) (.node (o280 P) (.nil) (.nil)) (.nil)) (.node (o216 P) (.nil) (.nil))) (.node (o120 P) (.node (o184 P) (.node (o312 P) (.nil) (.nil)) (.nil)) (.node (o248 P) (.nil) (.nil)))))) (.node (o12v5 P) (.node (o20 P) (.node (o36 P) (.node (o68 P) (.node (o132 P) (.node (o260 P) (.nil) (.nil)) (.nil)) (.node (o196 P) (.node (o324 P) (.nil) (.nil)) (.nil))) (.node (o100 P) (.node (o164 P) (.node (o292 P) (.nil) (.nil)) (.nil)) (.node (o228 P) (.nil) (.nil)))) (.node (o52 P) (.node (o84 P) (.node (o148 P) (.node (o276 P) (.nil) (.nil)) (.nil)) (.node (o212 P) (.node (o340 P) (.nil) (.nil)) (.nil))) (.node (o116 P) (.node (o180 P) (.node (o308 P) (.nil) (.nil)) (.nil)) (.node (o244 P) (.nil) (.nil))))) (.node (o28 P) (.node (o44 P) (.node (o76 P) (.node (o140 P) (.node (o268 P) (.nil) (.nil)) (.nil)) (.node (o204 P) (.node (o332 P) (.nil) (.nil)) (.nil))) (.node (o108 P) (.node (o172 P) (.node (o300 P) (.nil) (.nil)) (.nil)) (.node (o236 P) (.nil) (.nil)))) (.node (o60 P) (.node (o92 P) (.node (o156 P) (.node (o284 P) (.nil) (.nil)) (.nil)) (.node (o220 P) (.nil) (.nil))) (.node (o124 P) (.node (o188 P) (.node (o316 P) (.nil) (.nil)) (.nil)) (.node (o252 P) (.nil) (.nil))))))) (.node (boot_o_6 P) (.node (boot_o_10 P) (.node (o18 P) (.node (o34 P) (.node (o66 P) (.node (o130 P) (.node (o258 P) (.nil) (.nil)) (.nil)) (.node (o194 P) (.node (o322 P) (.nil) (.nil)) (.nil))) (.node (o98 P) (.node (o162 P) (.node (o290 P) (.nil) (.nil)) (.nil)) (.node (o226 P) (.nil) (.nil)))) (.node (o50 P) (.node (o82 P) (.node (o146 P) (.node (o274 P) (.nil) (.nil)) (.nil)) (.node (o210 P) (.node (o338 P) (.nil) (.nil)) (.nil))) (.node (o114 P) (.node (o178 P) (.node (o306 P) (.nil) (.nil)) (.nil)) (.node (o242 P) (.nil) (.nil))))) (.node (o26 P) (.node (o42 P) (.node (o74 P) (.node (o138 P) (.node (o266 P) (.nil) (.nil)) (.nil)) (.node (o202 P) (.node (o330 P) (.nil) (.nil)) (.nil))) (.node (o106 P) (.node (o170 P) (.node (o298 P) (.nil) (.nil)) (.nil)) (.node (o234 P) (.nil) (.nil)))) (.node (o58 P) (.node (o90 P) (.node (o154 P) (.node (o282 P) (.nil) (.nil)) (.nil)) (.node (o218 P) (.nil) (.nil))) (.node (o122 P) (.node (o186 P) (.node (o314 P) (.nil) (.nil)) (.nil)) (.node (o250 P) (.nil) (.nil)))))) (.node (o14 P) (.node (o22 P) (.node (o38 P) (.node (o70 P) (.node (o134 P) (.node (o262 P) (.nil) (.nil)) (.nil)) (.node (o198 P) (.node (o326 P) (.nil) (.nil)) (.nil))) (.node (o102 P) (.node (o166 P) (.node (o294 P) (.nil) (.nil)) (.nil)) (.node (o230 P) (.nil) (.nil)))) (.node (o54 P) (.node (o86 P) (.node (o150 P) (.node (o278 P) (.nil) (.nil)) (.nil)) (.node (o214 P) (.node (o342 P) (.nil) (.nil)) (.nil))) (.node (o118 P) (.node (o182 P) (.node (o310 P) (.nil) (.nil)) (.nil)) (.node (o246 P) (.nil) (.nil))))) (.node (o30 P) (.node (o46 P) (.node (o78 P) (.node (o142 P) (.node (o270 P) (.nil) (.nil)) (.nil)) (.node (o206 P) (.node (o334 P) (.nil) (.nil)) (.nil))) (.node (o110 P) (.node (o174 P) (.node (o302 P) (.nil) (.nil)) (.nil)) (.node (o238 P) (.nil) (.nil)))) (.node (o62 P) (.node (o94 P) (.node (o158 P) (.node (o286 P) (.nil) (.nil)) (.nil)) (.node (o222 P) (.nil) (.nil))) (.node (o126 P) (.node (o190 P) (.node (o318 P) (.nil) (.nil)) (.nil)) (.node (o254 P) (.nil) (.nil))))))))
noncomputable def g4 : List Stmt := [st 35, st 36, st 37, st 38, st 39, st 40, st 41, st 42, st 43, st 44, st 45, st 46, st 47]
noncomputable abbrev S5 (w : World) (os : OsState) : SharedT := ⟨t5 w.params, 343, {}, #[], {}, 656, os⟩
theorem pc4 (w : World) (os : OsState) : segRun treeTable PW w 11 an0 1 389 (S4 w os).abs (piecesOf g4 env0 cE ⟨181, 0, 185, 39⟩ fr0) = some (.next, (S5 w os).abs, cE, ⟨224, 0, 225, 28⟩) := by
  refine segRun_of ?_
  rewrite [TE_segRunT, TE_tree]
  kernel_rfl
noncomputable def o3v6 (P : Params) : Obj := ⟨.type "dict", none, .dict #[kE P "__name__" 165 (kS "gateloom.evaluate" 748), kE P "__doc__" 166 .none, kE P "__package__" 167 .none, kE P "__loader__" 168 (.builtin "__main__.__loader__#opaque"), kE P "__spec__" 169 .none, kE P "__annotations__" 170 (.ref 6), kE P "__builtins__" 171 (.ref 4), kE P "__file__" 173 (kS "/claim/cut.py" 172), kE P "__cached__" 174 .none, kE P "_wall" 193 (.ref 21), kE P "GateloomError" 231 (.ref 39), kE P "DesignError" 247 (.ref 52), kE P "mask" 256 (.ref 61), kE P "vec" 267 (.ref 69), kE P "zeros" 274 (.ref 76), kE P "all_x" 282 (.ref 83), kE P "all_z" 289 (.ref 90), kE P "from_int" 297 (.ref 97), kE P "is_known" 304 (.ref 104), kE P "to_int" 315 (.ref 111), kE P "code" 323 (.ref 118), kE P "slice_vec" 339 (.ref 125), kE P "put_slice" 355 (.ref 132), kE P "concat" 366 (.ref 139), kE P "extend" 379 (.ref 146), kE P "z_to_x" 386 (.ref 153), kE P "truth" 393 (.ref 160), kE P "add" 403 (.ref 167), kE P "sub" 411 (.ref 174), kE P "mul" 419 (.ref 181), kE P "neg" 426 (.ref 188), kE P "quotient" 435 (.ref 195), kE P "div" 446 (.ref 202), kE P "mod" 457 (.ref 209), kE P "raise_whole" 470 (.ref 216), kE P "power" 483 (.ref 223), kE P "shift_left" 493 (.ref 230), kE P "shift_right" 502 (.ref 237), kE P "shift_arith" 517 (.ref 244), kE P "ordered" 528 (.ref 251), kE P "less" 538 (.ref 258), kE P "less_equal" 548 (.ref 265), kE P "greater" 557 (.ref 272), kE P "greater_equal" 566 (.ref 279), kE P "one_bit" 575 (.ref 286), kE P "bit_not" 585 (.ref 293), kE P "bit_and" 599 (.ref 300), kE P "bit_or" 614 (.ref 307), kE P "bit_xor" 623 (.ref 314), kE P "bit_xnor" 631 (.ref 321), kE P "reduce_and" 641 (.ref 328), kE P "reduce_nand" 648 (.ref 335), kE P "reduce_or" 655 (.ref 342), kE P "reduce_nor" 662 (.ref 349), kE P "reduce_xor" 671 (.ref 356), kE P "reduce_xnor" 678 (.ref 363), kE P "logic_not" 685 (.ref 370), kE P "logic_and" 693 (.ref 377), kE P "logic_or" 701 (.ref 384), kE P "equal" 710 (.ref 391), kE P "not_equal" 718 (.ref 398), kE P "case_equal" 726 (.ref 405), kE P "case_not_equal" 734 (.ref 412), kE P "choose" 747 (.ref 419), kE P "unary" 757 (.ref 426)] 65, #[]⟩
noncomputable def o12v6 (P : Params) : Obj := ⟨.none, none, .fields #[.int 1 0, .int 0 0, .ref 20, .int 5 0, .int 0 0, .ref 27, .int 11 0, .int 0 0, .ref 48, .int 14 0, .int 0 0, .ref 60, .int 16 0, .int 0 0, .ref 68, .int 19 0, .int 0 0, .ref 75, .int 21 0, .int 0 0, .ref 82, .int 24 0, .int 0 0, .ref 89, .int 26 0, .int 0 0, .ref 96, .int 28 0, .int 0 0, .ref 103, .int 30 0, .int 0 0, .ref 110, .int 37 0, .int 0 0, .ref 117, .int 39 0, .int 0 0, .ref 124, .int 50 0, .int 0 0, .ref 131, .int 61 0, .int 0 0, .ref 138, .int 70 0, .int 0 0, .ref 145, .int 80 0, .int 0 0, .ref 152, .int 82 0, .int 0 0, .ref 159, .int 89 0, .int 0 0, .ref 166, .int 93 0, .int 0 0, .ref 173, .int 97 0, .int 0 0, .ref 180, .int 101 0, .int 0 0, .ref 187, .int 105 0, .int 0 0, .ref 194, .int 110 0, .int 0 0, .ref 201, .int 116 0, .int 0 0, .ref 208, .int 122 0, .int 0 0, .ref 215, .int 133 0, .int 0 0, .ref 222, .int 148 0, .int 0 0, .ref 229, .int 156 0, .int 0 0, .ref 236, .int 163 0, .int 0 0, .ref 243, .int 173 0, .int 0 0, .ref 250, .int 181 0, .int 0 0, .ref 257, .int 186 0, .int 0 0, .ref 264, .int 191 0, .int 0 0, .ref 271, .int 193 0, .int 0 0, .ref 278, .int 196 0, .int 0 0, .ref 285, .int 198 0, .int 0 0, .ref 292, .int 201 0, .int 0 0, .ref 299, .int 206 0, .int 0 0, .ref 306, .int 212 0, .int 0 0, .ref 313, .int 215 0, .int 0 0, .ref 320, .int 217 0, .int 0 0, .ref 327, .int 222 0, .int 0 0, .ref 334, .int 224 0, .int 0 0, .ref 341, .int 226 0, .int 0 0, .ref 348, .int 228 0, .int 0 0, .ref 355, .int 237 0, .int 0 0, .ref 362, .int 239 0, .int 0 0, .ref 369, .int 241 0, .int 0 0, .ref 376, .int 243 0, .int 0 0, .ref 383, .int 245 0, .int 0 0, .ref 390, .int 250 0, .int 0 0, .ref 397, .int 252 0, .int 0 0, .ref 404, .int 254 0, .int 0 0, .ref 411, .int 256 0, .int 0 0, .ref 418, .int 267 0, .int 0 0, .ref 425], #[]⟩
noncomputable def o343 (P : Params) : Obj := ⟨.type "tuple", none, .seq #[] 0, #[]⟩
noncomputable def o344 (P : Params) : Obj := ⟨.none, none, .fields #[], #[]⟩
noncomputable def o345 (P : Params) : Obj := ⟨.type "tuple", none, .seq #[kS "v" 659] 0, #[]⟩
noncomputable def o346 (P : Params) : Obj := ⟨.type "tuple", none, .seq #[] 0, #[]⟩
noncomputable def o347 (P : Params) : Obj := ⟨.none, none, fD (st 48) (.ofString "reduce_nor") 0 [] .none .none .none .none none .none .none 0, #[]⟩
noncomputable def o348 (P : Params) : Obj := ⟨.type "code", none, .fields #[kS "reduce_nor" 656, kS "reduce_nor" 657, kS "/claim/cut.py" 658, .int 226 0, .int 1 0, .int 0 0, .int 0 0, .int 3 0, .ref 343, .bool true, .int 181 0, .ref 344, .none, .ref 345, .ref 346, .ref 347, .int 660 0, .int 226 0, kS "/claim/cut.py" 661], #[]⟩
noncomputable def o349 (P : Params) : Obj := ⟨.type "function", none, fD (st 48) (.ofString "reduce_nor") 3 [] .none .none .none (kS "gateloom.vecops" 567) none (.ref 348) .none 0, #[]⟩
noncomputable def o350 (P : Params) : Obj := ⟨.type "tuple", none, .seq #[] 0, #[]⟩
noncomputable def o351 (P : Params) : Obj := ⟨.none, none, .fields #[], #[]⟩
noncomputable def o352 (P : Params) : Obj := ⟨.type "tuple", none, .seq #[kS "v" 666, kS "parity" 667, kS "rest" 668] 0, #[]⟩
noncomputable def o353 (P : Params) : Obj := ⟨.type "tuple", none, .seq #[] 0, #[]⟩
noncomputable def o354 (P : Params) : Obj := ⟨.none, none, fD (st 49) (.ofString "reduce_xor") 0 [] .none .none .none .none none .none .none 0, #[]⟩
noncomputable def o355 (P : Params) : Obj := ⟨.type "code", none, .fields #[kS "reduce_xor" 663, kS "reduce_xor" 664, kS "/claim/cut.py" 665, .int 228 0, .int 1 0, .int 0 0, .int 0 0, .int 3 0, .ref 350, .bool true, .int 181 0, .ref 351, .none, .ref 352, .ref 353, .ref 354, .int 669 0, .int 228 0, kS "/claim/cut.py" 670], #[]⟩
noncomputable def o356 (P : Params) : Obj := ⟨.type "function", none, fD (st 49) (.ofString "reduce_xor") 3 [] .none .none .none (kS "gateloom.vecops" 567) none (.ref 355) .none 0, #[]⟩
noncomputable def o357 (P : Params) : Obj := ⟨.type "tuple", none, .seq #[] 0, #[]⟩
noncomputable def o358 (P : Params) : Obj := ⟨.none, none, .fields #[], #[]⟩
noncomputable def o359 (P : Params) : Obj := ⟨.type "tuple", none, .seq #[kS "v" 675] 0, #[]⟩
noncomputable def o360 (P : Params) : Obj := ⟨.type "tuple", none, .seq #[] 0, #[]⟩
noncomputable def o361 (P : Params) : Obj := ⟨.none, none, fD (st 50) (.ofString "reduce_xnor") 0 [] .none .none .none .none none .none .none 0, #[]⟩
noncomputable def o362 (P : Params) : Obj := ⟨.type "code", none, .fields #[kS "reduce_xnor" 672, kS "reduce_xnor" 673, kS "/claim/cut.py" 674, .int 237 0, .int 1 0, .int 0 0, .int 0 0, .int 3 0, .ref 357, .bool true, .int 181 0, .ref 358, .none, .ref 359, .ref 360, .ref 361, .int 676 0, .int 237 0, kS "/claim/cut.py" 677], #[]⟩
noncomputable def o363 (P : Params) : Obj := ⟨.type "function", none, fD (st 50) (.ofString "reduce_xnor") 3 [] .none .none .none (kS "gateloom.vecops" 567) none (.ref 362) .none 0, #[]⟩
noncomputable def o364 (P : Params) : Obj := ⟨.type "tuple", none, .seq #[] 0, #[]⟩
noncomputable def o365 (P : Params) : Obj := ⟨.none, none, .fields #[], #[]⟩
noncomputable def o366 (P : Params) : Obj := ⟨.type "tuple", none, .seq #[kS "v" 682] 0, #[]⟩
noncomputable def o367 (P : Params) : Obj := ⟨.type "tuple", none, .seq #[] 0, #[]⟩
noncomputable def o368 (P : Params) : Obj := ⟨.none, none, fD (st 51) (.ofString "logic_not") 0 [] .none .none .none .none none .none .none 0, #[]⟩
noncomputable def o369 (P : Params) : Obj := ⟨.type "code", none, .fields #[kS "logic_not" 679, kS "logic_not" 680, kS "/claim/cut.py" 681, .int 239 0, .int 1 0, .int 0 0, .int 0 0, .int 3 0, .ref 364, .bool true, .int 181 0, .ref 365, .none, .ref 366, .ref 367, .ref 368, .int 683 0, .int 239 0, kS "/claim/cut.py" 684], #[]⟩
noncomputable def o370 (P : Params) : Obj := ⟨.type "function", none, fD (st 51) (.ofString "logic_not") 3 [] .none .none .none (kS "gateloom.vecops" 567) none (.ref 369) .none 0, #[]⟩
noncomputable def o371 (P : Params) : Obj := ⟨.type "tuple", none, .seq #[] 0, #[]⟩
noncomputable def o372 (P : Params) : Obj := ⟨.none, none, .fields #[], #[]⟩
noncomputable def o373 (P : Params) : Obj := ⟨.type "tuple", none, .seq #[kS "u" 689, kS "v" 690] 0, #[]⟩
noncomputable def o374 (P : Params) : Obj := ⟨.type "tuple", none, .seq #[] 0, #[]⟩
noncomputable def o375 (P : Params) : Obj := ⟨.none, none, fD (st 52) (.ofString "logic_and") 0 [] .none .none .none .none none .none .none 0, #[]⟩
noncomputable def o376 (P : Params) : Obj := ⟨.type "code", none, .fields #[kS "logic_and" 686, kS "logic_and" 687, kS "/claim/cut.py" 688, .int 241 0, .int 2 0, .int 0 0, .int 0 0, .int 3 0, .ref 371, .bool true, .int 181 0, .ref 372, .none, .ref 373, .ref 374, .ref 375, .int 691 0, .int 241 0, kS "/claim/cut.py" 692], #[]⟩
noncomputable def o377 (P : Params) : Obj := ⟨.type "function", none, fD (st 52) (.ofString "logic_and") 3 [] .none .none .none (kS "gateloom.vecops" 567) none (.ref 376) .none 0, #[]⟩
noncomputable def o378 (P : Params) : Obj := ⟨.type "tuple", none, .seq #[] 0, #[]⟩
noncomputable def o379 (P : Params) : Obj := ⟨.none, none, .fields #[], #[]⟩
noncomputable def o380 (P : Params) : Obj := ⟨.type "tuple", none, .seq #[kS "u" 697, kS "v" 698] 0, #[]⟩
noncomputable def o381 (P : Params) : Obj := ⟨.type "tuple", none, .seq #[] 0, #[]⟩
noncomputable def o382 (P : Params) : Obj := ⟨.none, none, fD (st 53) (.ofString "logic_or") 0 [] .none .none .none .none none .none .none 0, #[]⟩
noncomputable def o383 (P : Params) : Obj := ⟨.type "code", none, .fields #[kS "logic_or" 694, kS "logic_or" 695, kS "/claim/cut.py" 696, .int 243 0, .int 2 0, .int 0 0, .int 0 0, .int 3 0, .ref 378, .bool true, .int 181 0, .ref 379, .none, .ref 380, .ref 381, .ref 382, .int 699 0, .int 243 0, kS "/claim/cut.py" 700], #[]⟩
noncomputable def o384 (P : Params) : Obj := ⟨.type "function", none, fD (st 53) (.ofString "logic_or") 3 [] .none .none .none (kS "gateloom.vecops" 567) none (.ref 383) .none 0, #[]⟩
noncomputable def o385 (P : Params) : Obj := ⟨.type "tuple", none, .seq #[] 0, #[]⟩
noncomputable def o386 (P : Params) : Obj := ⟨.none, none, .fields #[], #[]⟩
noncomputable def o387 (P : Params) : Obj := ⟨.type "tuple", none, .seq #[kS "u" 705, kS "v" 706, kS "unknown" 707] 0, #[]⟩
noncomputable def o388 (P : Params) : Obj := ⟨.type "tuple", none, .seq #[] 0, #[]⟩
noncomputable def o389 (P : Params) : Obj := ⟨.none, none, fD (st 54) (.ofString "equal") 0 [] .none .none .none .none none .none .none 0, #[]⟩
noncomputable def o390 (P : Params) : Obj := ⟨.type "code", none, .fields #[kS "equal" 702, kS "equal" 703, kS "/claim/cut.py" 704, .int 245 0, .int 2 0, .int 0 0, .int 0 0, .int 3 0, .ref 385, .bool true, .int 181 0, .ref 386, .none, .ref 387, .ref 388, .ref 389, .int 708 0, .int 245 0, kS "/claim/cut.py" 709], #[]⟩
noncomputable def o391 (P : Params) : Obj := ⟨.type "function", none, fD (st 54) (.ofString "equal") 3 [] .none .none .none (kS "gateloom.vecops" 567) none (.ref 390) .none 0, #[]⟩
noncomputable def o392 (P : Params) : Obj := ⟨.type "tuple", none, .seq #[] 0, #[]⟩
noncomputable def o393 (P : Params) : Obj := ⟨.none, none, .fields #[], #[]⟩
noncomputable def o394 (P : Params) : Obj := ⟨.type "tuple", none, .seq #[kS "u" 714, kS "v" 715] 0, #[]⟩
noncomputable def o395 (P : Params) : Obj := ⟨.type "tuple", none, .seq #[] 0, #[]⟩
noncomputable def o396 (P : Params) : Obj := ⟨.none, none, fD (st 55) (.ofString "not_equal") 0 [] .none .none .none .none none .none .none 0, #[]⟩
noncomputable def o397 (P : Params) : Obj := ⟨.type "code", none, .fields #[kS "not_equal" 711, kS "not_equal" 712, kS "/claim/cut.py" 713, .int 250 0, .int 2 0, .int 0 0, .int 0 0, .int 3 0, .ref 392, .bool true, .int 181 0, .ref 393, .none, .ref 394, .ref 395, .ref 396, .int 716 0, .int 250 0, kS "/claim/cut.py" 717], #[]⟩
noncomputable def o398 (P : Params) : Obj := ⟨.type "function", none, fD (st 55) (.ofString "not_equal") 3 [] .none .none .none (kS "gateloom.vecops" 567) none (.ref 397) .none 0, #[]⟩
noncomputable def o399 (P : Params) : Obj := ⟨.type "tuple", none, .seq #[] 0, #[]⟩
noncomputable def o400 (P : Params) : Obj := ⟨.none, none, .fields #[], #[]⟩
noncomputable def o401 (P : Params) : Obj := ⟨.type "tuple", none, .seq #[kS "u" 722, kS "v" 723] 0, #[]⟩
noncomputable def o402 (P : Params) : Obj := ⟨.type "tuple", none, .seq #[] 0, #[]⟩
noncomputable def o403 (P : Params) : Obj := ⟨.none, none, fD (st 56) (.ofString "case_equal") 0 [] .none .none .none .none none .none .none 0, #[]⟩
noncomputable def o404 (P : Params) : Obj := ⟨.type "code", none, .fields #[kS "case_equal" 719, kS "case_equal" 720, kS "/claim/cut.py" 721, .int 252 0, .int 2 0, .int 0 0, .int 0 0, .int 3 0, .ref 399, .bool true, .int 181 0, .ref 400, .none, .ref 401, .ref 402, .ref 403, .int 724 0, .int 252 0, kS "/claim/cut.py" 725], #[]⟩
noncomputable def o405 (P : Params) : Obj := ⟨.type "function", none, fD (st 56) (.ofString "case_equal") 3 [] .none .none .none (kS "gateloom.vecops" 567) none (.ref 404) .none 0, #[]⟩
noncomputable def o406 (P : Params) : Obj := ⟨.type "tuple", none, .seq #[] 0, #[]⟩
noncomputable def o407 (P : Params) : Obj := ⟨.none, none, .fields #[], #[]⟩
noncomputable def o408 (P : Params) : Obj := ⟨.type "tuple", none, .seq #[kS "u" 730, kS "v" 731] 0, #[]⟩
noncomputable def o409 (P : Params) : Obj := ⟨.type "tuple", none, .seq #[] 0, #[]⟩
noncomputable def o410 (P : Params) : Obj := ⟨.none, none, fD (st 57) (.ofString "case_not_equal") 0 [] .none .none .none .none none .none .none 0, #[]⟩
noncomputable def o411 (P : Params) : Obj := ⟨.type "code", none, .fields #[kS "case_not_equal" 727, kS "case_not_equal" 728, kS "/claim/cut.py" 729, .int 254 0, .int 2 0, .int 0 0, .int 0 0, .int 3 0, .ref 406, .bool true, .int 181 0, .ref 407, .none, .ref 408, .ref 409, .ref 410, .int 732 0, .int 254 0, kS "/claim/cut.py" 733], #[]⟩
noncomputable def o412 (P : Params) : Obj := ⟨.type "function", none, fD (st 57) (.ofString "case_not_equal") 3 [] .none .none .none (kS "gateloom.vecops" 567) none (.ref 411) .none 0, #[]⟩
noncomputable def o413 (P : Params) : Obj := ⟨.type "tuple", none, .seq #[] 0, #[]⟩
noncomputable def o414 (P : Params) : Obj := ⟨.none, none, .fields #[], #[]⟩
noncomputable def o415 (P : Params) : Obj := ⟨.type "tuple", none, .seq #[kS "c" 738, kS "t" 739, kS "f" 740, kS "found" 741, kS "w" 742, kS "same" 743, kS "unknown" 744] 0, #[]⟩
noncomputable def o416 (P : Params) : Obj := ⟨.type "tuple", none, .seq #[] 0, #[]⟩
noncomputable def o417 (P : Params) : Obj := ⟨.none, none, fD (st 58) (.ofString "choose") 0 [] .none .none .none .none none .none .none 0, #[]⟩
noncomputable def o418 (P : Params) : Obj := ⟨.type "code", none, .fields #[kS "choose" 735, kS "choose" 736, kS "/claim/cut.py" 737, .int 256 0, .int 3 0, .int 0 0, .int 0 0, .int 3 0, .ref 413, .bool true, .int 181 0, .ref 414, .none, .ref 415, .ref 416, .ref 417, .int 745 0, .int 256 0, kS "/claim/cut.py" 746], #[]⟩
noncomputable def o419 (P : Params) : Obj := ⟨.type "function", none, fD (st 58) (.ofString "choose") 3 [] .none .none .none (kS "gateloom.vecops" 567) none (.ref 418) .none 0, #[]⟩
noncomputable def o420 (P : Params) : Obj := ⟨.type "tuple", none, .seq #[] 0, #[]⟩
noncomputable def o421 (P : Params) : Obj := ⟨.none, none, .fields #[], #[]⟩
noncomputable def o422 (P : Params) : Obj := ⟨.type "tuple", none, .seq #[kS "op" 753, kS "u" 754] 0, #[]⟩
noncomputable def o423 (P : Params) : Obj := ⟨.type "tuple", none, .seq #[] 0, #[]⟩
noncomputable def o424 (P : Params) : Obj := ⟨.none, none, fD (st 60) (.ofString "unary") 0 [] .none .none .none .none none .none .none 0, #[]⟩
noncomputable def o425 (P : Params) : Obj := ⟨.type "code", none, .fields #[kS "unary" 750, kS "unary" 751, kS "/claim/cut.py" 752, .int 267 0, .int 2 0, .int 0 0, .int 0 0, .int 3 0, .ref 420, .bool true, .int 181 0, .ref 421, .none, .ref 422, .ref 423, .ref 424, .int 755 0, .int 267 0, kS "/claim/cut.py" 756], #[]⟩
noncomputable def o426 (P : Params) : Obj := ⟨.type "function", none, fD (st 60) (.ofString "unary") 3 [] .none .none .none (kS "gateloom.evaluate" 748) none (.ref 425) .none 0, #[]⟩
noncomputable def t6 (P : Params) : BT := .node (boot_o_0 P) (.node (boot_o_1 P) (.node (o3v6 P) (.node (boot_o_7 P) (.node (o15 P) (.node (o31 P) (.node (o63 P) (.node (o127 P) (.node (o255 P) (.nil) (.nil)) (.node (o383 P) (.nil) (.nil))) (.node (o191 P) (.node (o319 P) (.nil) (.nil)) (.nil))) (.node (o95 P) (.node (o159 P) (.node (o287 P) (.nil) (.nil)) (.node (o415 P) (.nil) (.nil))) (.node (o223 P) (.node (o351 P) (.nil) (.nil)) (.nil)))) (.node (o47 P) (.node (o79 P) (.node (o143 P) (.node (o271 P) (.nil) (.nil)) (.node (o399 P) (.nil) (.nil))) (.node (o207 P) (.node (o335 P) (.nil) (.nil)) (.nil))) (.node (o111 P) (.node (o175 P) (.node (o303 P) (.nil) (.nil)) (.nil)) (.node (o239 P) (.node (o367 P) (.nil) (.nil)) (.nil))))) (.node (o23 P) (.node (o39v1 P) (.node (o71 P) (.node (o135 P) (.node (o263 P) (.nil) (.nil)) (.node (o391 P) (.nil) (.nil))) (.node (o199 P) (.node (o327 P) (.nil) (.nil)) (.nil))) (.node (o103 P) (.node (o167 P) (.node (o295 P) (.nil) (.nil)) (.node (o423 P) (.nil) (.nil))) (.node (o231 P) (.node (o359 P) (.nil) (.nil)) (.nil)))) (.node (o55 P) (.node (o87 P) (.node (o151 P) (.node (o279 P) (.nil) (.nil)) (.node (o407 P) (.nil) (.nil))) (.node (o215 P) (.node (o343 P) (.nil) (.nil)) (.nil))) (.node (o119 P) (.node (o183 P) (.node (o311 P) (.nil) (.nil)) (.nil)) (.node (o247 P) (.node (o375 P) (.nil) (.nil)) (.nil)))))) (.node (o11 P) (.node (o19 P) (.node (o35 P) (.node (o67 P) (.node (o131 P) (.node (o259 P) (.nil) (.nil)) (.node (o387 P) (.nil) (.nil))) (.node (o195 P) (.node (o323 P) (.nil) (.nil)) (.nil))) (.node (o99 P) (.node (o163 P) (.node (o291 P) (.nil) (.nil)) (.node (o419 P) (.nil) (.nil))) (.node (o227 P) (.node (o355 P) (.nil) (.nil)) (.nil)))) (.node (o51 P) (.node (o83 P) (.node (o147 P) (.node (o275 P) (.nil) (.nil)) (.node (o403 P) (.nil) (.nil))) (.node (o211 P) (.node (o339 P) (.nil) (.nil)) (.nil))) (.node (o115 P) (.node (o179 P) (.node (o307 P) (.nil) (.nil)) (.nil)) (.node (o243 P) (.node (o371 P) (.nil) (.nil)) (.nil))))) (.node (o27 P) (.node (o43 P) (.node (o75 P) (.node (o139 P) (.node (o267 P) (.nil) (.nil)) (.node (o395 P) (.nil) (.nil))) (.node (o203 P) (.node (o331 P) (.nil) (.nil)) (.nil))) (.node (o107 P) (.node (o171 P) (.node (o299 P) (.nil) (.nil)) (.nil)) (.node (o235 P) (.node (o363 P) (.nil) (.nil)) (.nil)))) (.node (o59 P) (.node (o91 P) (.node (o155 P) (.node (o283 P) (.nil) (.nil)) (.node (o411 P) (.nil) (.nil))) (.node (o219 P) (.node (o347 P) (.nil) (.nil)) (.nil))) (.node (o123 P) (.node (o187 P) (.node (o315 P) (.nil) (.nil)) (.nil)) (.node (o251 P) (.node (o379 P) (.nil) (.nil)) (.nil))))))) (.node (boot_o_5 P) (.node (boot_o_9 P) (.node (o17 P) (.node (o33 P) (.node (o65 P) (.node (o129 P) (.node (o257 P) (.nil) (.nil)) (.node (o385 P) (.nil) (.nil))) (.node (o193 P) (.node (o321 P) (.nil) (.nil)) (.nil))) (.node (o97 P) (.node (o161 P) (.node (o289 P) (.nil) (.nil)) (.node (o417 P) (.nil) (.nil))) (.node (o225 P) (.node (o353 P) (.nil) (.nil)) (.nil)))) (.node (o49 P) (.node (o81 P) (.node (o145 P) (.node (o273 P) (.nil) (.nil)) (.node (o401 P) (.nil) (.nil))) (.node (o209 P) (.node (o337 P) (.nil) (.nil)) (.nil))) (.node (o113 P) (.node (o177 P) (.node (o305 P) (.nil) (.nil)) (.nil)) (.node (o241 P) (.node (o369 P) (.nil) (.nil)) (.nil))))) (.node (o25 P) (.node (o41 P) (.node (o73 P) (.node (o137 P) (.node (o265 P) (.nil) (.nil)) (.node (o393 P) (.nil) (.nil))) (.node (o201 P) (.node (o329 P) (.nil) (.nil)) (.nil))) (.node (o105 P) (.node (o169 P) (.node (o297 P) (.nil) (.nil)) (.node (o425 P) (.nil) (.nil))) (.node (o233 P) (.node (o361 P) (.nil) (.nil)) (.nil)))) (.node (o57 P) (.node (o89 P) (.node (o153 P) (.node (o281 P) (.nil) (.nil)) (.node (o409 P) (.nil) (.nil))) (.node (o217 P) (.node (o345 P) (.nil) (.nil)) (.nil))) (.node (o121 P) (.node (o185 P) (.node (o313 P) (.nil) (.nil)) (.nil)) (.node (o249 P) (.node (o377 P) (.nil) (.nil)) (.nil)))))) (.node (o13 P) (.node (o21 P) (.node (o37 P) (.node (o69 P) (.node (o133 P) (.node (o261 P) (.nil) (.nil)) (.node (o389 P) (.nil) (.nil))) (.node (o197 P) (.node (o325 P) (.nil) (.nil)) (.nil))) (.node (o101 P) (.node (o165 P) (.node (o293 P) (.nil) (.nil)) (.node (o421 P) (.nil) (.nil))) (.node (o229 P) (.node (o357 P) (.nil) (.nil)) (.nil)))) (.node (o53 P) (.node (o85 P) (.node (o149 P) (.node (o277 P) (.nil) (.nil)) (.node (o405 P) (.nil) (.nil))) (.node (o213 P) (.node (o341 P) (.nil) (.nil)) (.nil))) (.node (o117 P) (.node (o181 P) (.node (o309 P) (.nil) (.nil)) (.nil)) (.node (o245 P) (.node (o373 P) (.nil) (.nil)) (.nil))))) (.node (o29 P) (.node (o45 P) (.node (o77 P) (.node (o141 P) (.node (o269 P) (.nil) (.nil)) (.node (o397 P) (.nil) (.nil))) (.node (o205 P) (.node (o333 P) (.nil) (.nil)) (.nil))) (.node (o109 P) (.node (o173 P) (.node (o301 P) (.nil) (.nil)) (.nil)) (.node (o237 P) (.node (o365 P) (.nil) (.nil)) (.nil)))) (.node (o61 P) (.node (o93 P) (.node (o157 P) (.node (o285 P) (.nil) (.nil)) (.node (o413 P) (.nil) (.nil))) (.node (o221 P) (.node (o349 P) (.nil) (.nil)) (.nil))) (.node (o125 P) (.node (o189 P) (.node (o317 P) (.nil) (.nil)) (.nil)) (.node (o253 P) (.node (o381 P) (.nil) (.nil)) (.nil)))))))) (.node (o2v1 P) (.node (boot_o_4 P) (.node (boot_o_8 P) (.node (o16 P) (.node (o32 P) (.node (o64 P) (.node (o128 P) (.node (o256 P) (.nil) (.nil)) (.node (o384 P) (.nil) (.nil))) (.node (o192 P) (.node (o320 P) (.nil) (.nil)) (.nil))) (.node (o96 P) (.node (o160 P) (.node (o288 P) (.nil) (.nil)) (.node (o416 P) (.nil) (.nil))) (.node (o224 P) (.node (o352 P) (.nil) (.nil)) (.nil)))) (.node (o48 P) (.node (o80 P) (.node (o144 P) (.node (o272 P) (.nil) (.nil)) (.node (o400 P) (.nil) (.nil))) (.node (o208 P) (.node (o336 P) (.nil) (.nil)) (.nil))) (.node (o112 P) (.node (o176 P) (.node (o304 P) (.nil) (.nil)) (.nil)) (.node (o240 P) (.node (o368 P) (.nil) (.nil)) (.nil))))) (.node (o24 P) (.node (o40 P) (.node (o72 P) (.node (o136 P) (.node (o264 P) (.nil) (.nil)) (.node (o392 P) (.nil) (.nil))) (.node (o200 P) (.node (o328 P) (.nil) (.nil)) (.nil))) (.node (o104 P) (.node (o168 P) (.node (o296 P) (.nil) (.nil)) (.node (o424 P) (.nil) (.nil))) (.node (o232 P) (.node (o360 P) (.nil) (.nil)) (.nil)))) (.node (o56 P) (.node (o88 P) (.node (o152 P) (.node (o280 P) (.nil) (.nil)) (.node (o408 P) (.nil) (.nil))) (.node (o216 P) (.node (o344 P) (.nil) (.nil)) (.nil))) (.node (o120 P) (.node (o184 P) (.node (o312 P) (.nil) (.nil)) (.nil)) (.node (o248 P) (.node (o376 P) (.nil) (.nil)) (.nil)))))) (.node (o12v6 P) (.node (o20 P) (.node (o36 P) (.node (o68 P) (.node (o132 P) (.node (o260 P) (.nil) (.nil)) (.node (o388 P) (.nil) (.nil))) (.node (o196 P) (.node (o324 P) (.nil) (.nil)) (.nil))) (.node (o100 P) (.node (o164 P) (.node (o292 P) (.nil) (.nil)) (.node (o420 P) (.nil) (.nil))) (.node (o228 P) (.node (o356 P) (.nil) (.nil)) (.nil)))) (.node (o52 P) (.node (o84 P) (.node (o148 P) (.node (o276 P) (.nil) (.nil)) (.node (o404 P) (.nil) (.nil))) (.node (o212 P) (.node (o340 P) (.nil) (.nil)) (.nil))) (.node (o116 P) (.node (o180 P) (.node (o308 P) (.nil) (.nil)) (.nil)) (.node (o244 P) (.node (o372 P) (.nil) (.nil)) (.nil))))) (.node (o28 P) (.node (o44 P) (.node (o76 P) (.node (o140 P) (.node (o268 P) (.nil) (.nil)) (.node (o396 P) (.nil) (.nil))) (.node (o204 P) (.node (o332 P) (.nil) (.nil)) (.nil))) (.node (o108 P) (.node (o172 P) (.node (o300 P) (.nil) (.nil)) (.nil)) (.node (o236 P) (.node (o364 P) (.nil) (.nil)) (.nil)))) (.node (o60 P) (.node (o92 P) (.node (o156 P) (.node (o284 P) (.nil) (.nil)) (.node (o412 P) (.nil) (.nil))) (.node (o220 P) (.node (o348 P) (.nil) (.nil)) (.nil))) (.node (o124 P) (.node (o188 P) (.node (o316 P) (.nil) (.nil)) (.nil)) (.node (o252 P) (.node (o380 P) (.nil) (.nil)) (.nil))))))) (.node (boot_o_6 P) (.node (boot_o_10 P) (.node (o18 P) (.node (o34 P) (.node (o66 P) (.node (o130 P) (.node (o258 P) (.nil) (.nil)) (.node (o386 P) (.nil) (.nil))) (.node (o194 P) (.node (o322 P) (.nil) (.nil)) (.nil))) (.node (o98 P) (.node (o162 P) (.node (o290 P) (.nil) (.nil)) (.node (o418 P) (.nil) (.nil))) (.node (o226 P) (.node (o354 P) (.nil) (.nil)) (.nil)))) (.node (o50 P) (.node (o82 P) (.node (o146 P) (.node (o274 P) (.nil) (.nil)) (.node (o402 P) (.nil) (.nil))) (.node (o210 P) (.node (o338 P) (.nil) (.nil)) (.nil))) (.node (o114 P) (.node (o178 P) (.node (o306 P) (.nil) (.nil)) (.nil)) (.node (o242 P) (.node (o370 P) (.nil) (.nil)) (.nil))))) (.node (o26 P) (.node (o42 P) (.node (o74 P) (.node (o138 P) (.node (o266 P) (.nil) (.nil)) (.node (o394 P) (.nil) (.nil))) (.node (o202 P) (.node (o330 P) (.nil) (.nil)) (.nil))) (.node (o106 P) (.node (o170 P) (.node (o298 P) (.nil) (.nil)) (.node (o426 P) (.nil) (.nil))) (.node (o234 P) (.node (o362 P) (.nil) (.nil)) (.nil)))) (.node (o58 P) (.node (o90 P) (.node (o154 P) (.node (o282 P) (.nil) (.nil)) (.node (o410 P) (.nil) (.nil))) (.node (o218 P) (.node (o346 P) (.nil) (.nil)) (.nil))) (.node (o122 P) (.node (o186 P) (.node (o314 P) (.nil) (.nil)) (.nil)) (.node (o250 P) (.node (o378 P) (.nil) (.nil)) (.nil)))))) (.node (o14 P) (.node (o22 P) (.node (o38 P) (.node (o70 P) (.node (o134 P) (.node (o262 P) (.nil) (.nil)) (.node (o390 P) (.nil) (.nil))) (.node (o198 P) (.node (o326 P) (.nil) (.nil)) (.nil))) (.node (o102 P) (.node (o166 P) (.node (o294 P) (.nil) (.nil)) (.node (o422 P) (.nil) (.nil))) (.node (o230 P) (.node (o358 P) (.nil) (.nil)) (.nil)))) (.node (o54 P) (.node (o86 P) (.node (o150 P) (.node (o278 P) (.nil) (.nil)) (.node (o406 P) (.nil) (.nil))) (.node (o214 P) (.node (o342 P) (.nil) (.nil)) (.nil))) (.node (o118 P) (.node (o182 P) (.node (o310 P) (.nil) (.nil)) (.nil)) (.node (o246 P) (.node (o374 P) (.nil) (.nil)) (.nil))))) (.node (o30 P) (.node (o46 P) (.node (o78 P) (.node (o142 P) (.node (o270 P) (.nil) (.nil)) (.node (o398 P) (.nil) (.nil))) (.node (o206 P) (.node (o334 P) (.nil) (.nil)) (.nil))) (.node (o110 P) (.node (o174 P) (.node (o302 P) (.nil) (.nil)) (.nil)) (.node (o238 P) (.node (o366 P) (.nil) (.nil)) (.nil)))) (.node (o62 P) (.node (o94 P) (.node (o158 P) (.node (o286 P) (.nil) (.nil)) (.node (o414 P) (.nil) (.nil))) (.node (o222 P) (.node (o350 P) (.nil) (.nil)) (.nil))) (.node (o126 P) (.node (o190 P) (.node (o318 P) (.nil) (.nil)) (.nil)) (.node (o254 P) (.node (o382 P) (.nil) (.nil)) (.nil))))))))
noncomputable def g5 : List Stmt := [st 48, st 49, st 50, st 51, st 52, st 53, st 54, st 55, st 56, st 57, st 58, st 59, st 60]
noncomputable abbrev S6 (w : World) (os : OsState) : SharedT := ⟨t6 w.params, 427, {}, #[], {}, 758, os⟩
theorem pc5 (w : World) (os : OsState) : segRun treeTable PW w 11 an0 1 374 (S5 w os).abs (piecesOf g5 env0 cE ⟨224, 0, 225, 28⟩ fr0) = some (.next, (S6 w os).abs, cE, ⟨267, 0, 286, 49⟩) := by
  refine segRun_of ?_
  rewrite [TE_segRunT, TE_tree]
  kernel_rfl
noncomputable def o3v7 (P : Params) : Obj := ⟨.type "dict", none, .dict #[kE P "__name__" 165 (kS "gateloom.evaluate" 748), kE P "__doc__" 166 .none, kE P "__package__" 167 .none, kE P "__loader__" 168 (.builtin "__main__.__loader__#opaque"), kE P "__spec__" 169 .none, kE P "__annotations__" 170 (.ref 6), kE P "__builtins__" 171 (.ref 4), kE P "__file__" 173 (kS "/claim/cut.py" 172), kE P "__cached__" 174 .none, kE P "_wall" 193 (.ref 21), kE P "GateloomError" 231 (.ref 39), kE P "DesignError" 247 (.ref 52), kE P "mask" 256 (.ref 61), kE P "vec" 267 (.ref 69), kE P "zeros" 274 (.ref 76), kE P "all_x" 282 (.ref 83), kE P "all_z" 289 (.ref 90), kE P "from_int" 297 (.ref 97), kE P "is_known" 304 (.ref 104), kE P "to_int" 315 (.ref 111), kE P "code" 323 (.ref 118), kE P "slice_vec" 339 (.ref 125), kE P "put_slice" 355 (.ref 132), kE P "concat" 366 (.ref 139), kE P "extend" 379 (.ref 146), kE P "z_to_x" 386 (.ref 153), kE P "truth" 393 (.ref 160), kE P "add" 403 (.ref 167), kE P "sub" 411 (.ref 174), kE P "mul" 419 (.ref 181), kE P "neg" 426 (.ref 188), kE P "quotient" 435 (.ref 195), kE P "div" 446 (.ref 202), kE P "mod" 457 (.ref 209), kE P "raise_whole" 470 (.ref 216), kE P "power" 483 (.ref 223), kE P "shift_left" 493 (.ref 230), kE P "shift_right" 502 (.ref 237), kE P "shift_arith" 517 (.ref 244), kE P "ordered" 528 (.ref 251), kE P "less" 538 (.ref 258), kE P "less_equal" 548 (.ref 265), kE P "greater" 557 (.ref 272), kE P "greater_equal" 566 (.ref 279), kE P "one_bit" 575 (.ref 286), kE P "bit_not" 585 (.ref 293), kE P "bit_and" 599 (.ref 300), kE P "bit_or" 614 (.ref 307), kE P "bit_xor" 623 (.ref 314), kE P "bit_xnor" 631 (.ref 321), kE P "reduce_and" 641 (.ref 328), kE P "reduce_nand" 648 (.ref 335), kE P "reduce_or" 655 (.ref 342), kE P "reduce_nor" 662 (.ref 349), kE P "reduce_xor" 671 (.ref 356), kE P "reduce_xnor" 678 (.ref 363), kE P "logic_not" 685 (.ref 370), kE P "logic_and" 693 (.ref 377), kE P "logic_or" 701 (.ref 384), kE P "equal" 710 (.ref 391), kE P "not_equal" 718 (.ref 398), kE P "case_equal" 726 (.ref 405), kE P "case_not_equal" 734 (.ref 412), kE P "choose" 747 (.ref 419), kE P "unary" 757 (.ref 426), kE P "arithmetic" 767 (.ref 433), kE P "comparison" 777 (.ref 440), kE P "bitwise" 786 (.ref 447), kE P "binary" 797 (.ref 454), kE P "whole_of" 806 (.ref 461), kE P "memory_word" 816 (.ref 468), kE P "picked" 826 (.ref 475), kE P "conditional" 836 (.ref 482), kE P "bits_needed" 844 (.ref 489), kE P "system_value" 855 (.ref 496), kE P "evaluate" 861 (.ref 501), kE P "locate" 870 (.ref 508)] 77, #[]⟩
noncomputable def o12v7 (P : Params) : Obj := ⟨.none, none, .fields #[.int 1 0, .int 0 0, .ref 20, .int 5 0, .int 0 0, .ref 27, .int 11 0, .int 0 0, .ref 48, .int 14 0, .int 0 0, .ref 60, .int 16 0, .int 0 0, .ref 68, .int 19 0, .int 0 0, .ref 75, .int 21 0, .int 0 0, .ref 82, .int 24 0, .int 0 0, .ref 89, .int 26 0, .int 0 0, .ref 96, .int 28 0, .int 0 0, .ref 103, .int 30 0, .int 0 0, .ref 110, .int 37 0, .int 0 0, .ref 117, .int 39 0, .int 0 0, .ref 124, .int 50 0, .int 0 0, .ref 131, .int 61 0, .int 0 0, .ref 138, .int 70 0, .int 0 0, .ref 145, .int 80 0, .int 0 0, .ref 152, .int 82 0, .int 0 0, .ref 159, .int 89 0, .int 0 0, .ref 166, .int 93 0, .int 0 0, .ref 173, .int 97 0, .int 0 0, .ref 180, .int 101 0, .int 0 0, .ref 187, .int 105 0, .int 0 0, .ref 194, .int 110 0, .int 0 0, .ref 201, .int 116 0, .int 0 0, .ref 208, .int 122 0, .int 0 0, .ref 215, .int 133 0, .int 0 0, .ref 222, .int 148 0, .int 0 0, .ref 229, .int 156 0, .int 0 0, .ref 236, .int 163 0, .int 0 0, .ref 243, .int 173 0, .int 0 0, .ref 250, .int 181 0, .int 0 0, .ref 257, .int 186 0, .int 0 0, .ref 264, .int 191 0, .int 0 0, .ref 271, .int 193 0, .int 0 0, .ref 278, .int 196 0, .int 0 0, .ref 285, .int 198 0, .int 0 0, .ref 292, .int 201 0, .int 0 0, .ref 299, .int 206 0, .int 0 0, .ref 306, .int 212 0, .int 0 0, .ref 313, .int 215 0, .int 0 0, .ref 320, .int 217 0, .int 0 0, .ref 327, .int 222 0, .int 0 0, .ref 334, .int 224 0, .int 0 0, .ref 341, .int 226 0, .int 0 0, .ref 348, .int 228 0, .int 0 0, .ref 355, .int 237 0, .int 0 0, .ref 362, .int 239 0, .int 0 0, .ref 369, .int 241 0, .int 0 0, .ref 376, .int 243 0, .int 0 0, .ref 383, .int 245 0, .int 0 0, .ref 390, .int 250 0, .int 0 0, .ref 397, .int 252 0, .int 0 0, .ref 404, .int 254 0, .int 0 0, .ref 411, .int 256 0, .int 0 0, .ref 418, .int 267 0, .int 0 0, .ref 425, .int 287 0, .int 0 0, .ref 432, .int 305 0, .int 0 0, .ref 439, .int 323 0, .int 0 0, .ref 446, .int 337 0, .int 0 0, .ref 453, .int 346 0, .int 0 0, .ref 460, .int 348 0, .int 0 0, .ref 467, .int 356 0, .int 0 0, .ref 474, .int 362 0, .int 0 0, .ref 481, .int 370 0, .int 0 0, .ref 488, .int 375 0, .int 0 0, .ref 495, .int 388 0, .int 0 0, .ref 500, .int 419 0, .int 0 0, .ref 507], #[]⟩
noncomputable def o427 (P : Params) : Obj := ⟨.type "tuple", none, .seq #[] 0, #[]⟩
noncomputable def o428 (P : Params) : Obj := ⟨.none, none, .fields #[], #[]⟩
noncomputable def o429 (P : Params) : Obj := ⟨.type "tuple", none, .seq #[kS "op" 761, kS "u" 762, kS "v" 763, kS "signed" 764] 0, #[]⟩
noncomputable def o430 (P : Params) : Obj := ⟨.type "tuple", none, .seq #[] 0, #[]⟩
noncomputable def o431 (P : Params) : Obj := ⟨.none, none, fD (st 61) (.ofString "arithmetic") 0 [] .none .none .none .none none .none .none 0, #[]⟩
noncomputable def o432 (P : Params) : Obj := ⟨.type "code", none, .fields #[kS "arithmetic" 758, kS "arithmetic" 759, kS "/claim/cut.py" 760, .int 287 0, .int 4 0, .int 0 0, .int 0 0, .int 3 0, .ref 427, .bool true, .int 181 0, .ref 428, .none, .ref 429, .ref 430, .ref 431, .int 765 0, .int 287 0, kS "/claim/cut.py" 766], #[]⟩
noncomputable def o433 (P : Params) : Obj := ⟨.type "function", none, fD (st 61) (.ofString "arithmetic") 3 [] .none .none .none (kS "gateloom.evaluate" 748) none (.ref 432) .none 0, #[]⟩
noncomputable def o434 (P : Params) : Obj := ⟨.type "tuple", none, .seq #[] 0, #[]⟩
noncomputable def o435 (P : Params) : Obj := ⟨.none, none, .fields #[], #[]⟩
noncomputable def o436 (P : Params) : Obj := ⟨.type "tuple", none, .seq #[kS "op" 771, kS "u" 772, kS "v" 773, kS "signed" 774] 0, #[]⟩
noncomputable def o437 (P : Params) : Obj := ⟨.type "tuple", none, .seq #[] 0, #[]⟩
noncomputable def o438 (P : Params) : Obj := ⟨.none, none, fD (st 62) (.ofString "comparison") 0 [] .none .none .none .none none .none .none 0, #[]⟩
noncomputable def o439 (P : Params) : Obj := ⟨.type "code", none, .fields #[kS "comparison" 768, kS "comparison" 769, kS "/claim/cut.py" 770, .int 305 0, .int 4 0, .int 0 0, .int 0 0, .int 3 0, .ref 434, .bool true, .int 181 0, .ref 435, .none, .ref 436, .ref 437, .ref 438, .int 775 0, .int 305 0, kS "/claim/cut.py" 776], #[]⟩
noncomputable def o440 (P : Params) : Obj := ⟨.type "function", none, fD (st 62) (.ofString "comparison") 3 [] .none .none .none (kS "gateloom.evaluate" 748) none (.ref 439) .none 0, #[]⟩
noncomputable def o441 (P : Params) : Obj := ⟨.type "tuple", none, .seq #[] 0, #[]⟩
noncomputable def o442 (P : Params) : Obj := ⟨.none, none, .fields #[], #[]⟩
noncomputable def o443 (P : Params) : Obj := ⟨.type "tuple", none, .seq #[kS "op" 781, kS "u" 782, kS "v" 783] 0, #[]⟩
noncomputable def o444 (P : Params) : Obj := ⟨.type "tuple", none, .seq #[] 0, #[]⟩
noncomputable def o445 (P : Params) : Obj := ⟨.none, none, fD (st 63) (.ofString "bitwise") 0 [] .none .none .none .none none .none .none 0, #[]⟩
noncomputable def o446 (P : Params) : Obj := ⟨.type "code", none, .fields #[kS "bitwise" 778, kS "bitwise" 779, kS "/claim/cut.py" 780, .int 323 0, .int 3 0, .int 0 0, .int 0 0, .int 3 0, .ref 441, .bool true, .int 181 0, .ref 442, .none, .ref 443, .ref 444, .ref 445, .int 784 0, .int 323 0, kS "/claim/cut.py" 785], #[]⟩
noncomputable def o447 (P : Params) : Obj := ⟨.type "function", none, fD (st 63) (.ofString "bitwise") 3 [] .none .none .none (kS "gateloom.evaluate" 748) none (.ref 446) .none 0, #[]⟩
noncomputable def o448 (P : Params) : Obj := ⟨.type "tuple", none, .seq #[] 0, #[]⟩
noncomputable def o449 (P : Params) : Obj := ⟨.none, none, .fields #[], #[]⟩
noncomputable def o450 (P : Params) : Obj := ⟨.type "tuple", none, .seq #[kS "op" 790, kS "u" 791, kS "v" 792, kS "signed" 793, kS "value" 794] 0, #[]⟩
noncomputable def o451 (P : Params) : Obj := ⟨.type "tuple", none, .seq #[] 0, #[]⟩
noncomputable def o452 (P : Params) : Obj := ⟨.none, none, fD (st 64) (.ofString "binary") 0 [] .none .none .none .none none .none .none 0, #[]⟩
noncomputable def o453 (P : Params) : Obj := ⟨.type "code", none, .fields #[kS "binary" 787, kS "binary" 788, kS "/claim/cut.py" 789, .int 337 0, .int 4 0, .int 0 0, .int 0 0, .int 3 0, .ref 448, .bool true, .int 181 0, .ref 449, .none, .ref 450, .ref 451, .ref 452, .int 795 0, .int 337 0, kS "/claim/cut.py" 796], #[]⟩
noncomputable def o454 (P : Params) : Obj := ⟨.type "function", none, fD (st 64) (.ofString "binary") 3 [] .none .none .none (kS "gateloom.evaluate" 748) none (.ref 453) .none 0, #[]⟩
noncomputable def o455 (P : Params) : Obj := ⟨.type "tuple", none, .seq #[] 0, #[]⟩
noncomputable def o456 (P : Params) : Obj := ⟨.none, none, .fields #[], #[]⟩
noncomputable def o457 (P : Params) : Obj := ⟨.type "tuple", none, .seq #[kS "e" 801, kS "signed" 802, kS "ctx" 803] 0, #[]⟩
noncomputable def o458 (P : Params) : Obj := ⟨.type "tuple", none, .seq #[] 0, #[]⟩
noncomputable def o459 (P : Params) : Obj := ⟨.none, none, fD (st 65) (.ofString "whole_of") 0 [] .none .none .none .none none .none .none 0, #[]⟩
noncomputable def o460 (P : Params) : Obj := ⟨.type "code", none, .fields #[kS "whole_of" 798, kS "whole_of" 799, kS "/claim/cut.py" 800, .int 346 0, .int 3 0, .int 0 0, .int 0 0, .int 3 0, .ref 455, .bool true, .int 181 0, .ref 456, .none, .ref 457, .ref 458, .ref 459, .int 804 0, .int 346 0, kS "/claim/cut.py" 805], #[]⟩
noncomputable def o461 (P : Params) : Obj := ⟨.type "function", none, fD (st 65) (.ofString "whole_of") 3 [] .none .none .none (kS "gateloom.evaluate" 748) none (.ref 460) .none 0, #[]⟩
noncomputable def o462 (P : Params) : Obj := ⟨.type "tuple", none, .seq #[] 0, #[]⟩
noncomputable def o463 (P : Params) : Obj := ⟨.none, none, .fields #[], #[]⟩
noncomputable def o464 (P : Params) : Obj := ⟨.type "tuple", none, .seq #[kS "e" 810, kS "ctx" 811, kS "index" 812, kS "place" 813] 0, #[]⟩
noncomputable def o465 (P : Params) : Obj := ⟨.type "tuple", none, .seq #[] 0, #[]⟩
noncomputable def o466 (P : Params) : Obj := ⟨.none, none, fD (st 66) (.ofString "memory_word") 0 [] .none .none .none .none none .none .none 0, #[]⟩
noncomputable def o467 (P : Params) : Obj := ⟨.type "code", none, .fields #[kS "memory_word" 807, kS "memory_word" 808, kS "/claim/cut.py" 809, .int 348 0, .int 2 0, .int 0 0, .int 0 0, .int 3 0, .ref 462, .bool true, .int 181 0, .ref 463, .none, .ref 464, .ref 465, .ref 466, .int 814 0, .int 348 0, kS "/claim/cut.py" 815], #[]⟩
noncomputable def o468 (P : Params) : Obj := ⟨.type "function", none, fD (st 66) (.ofString "memory_word") 3 [] .none .none .none (kS "gateloom.evaluate" 748) none (.ref 467) .none 0, #[]⟩
noncomputable def o469 (P : Params) : Obj := ⟨.type "tuple", none, .seq #[] 0, #[]⟩
noncomputable def o470 (P : Params) : Obj := ⟨.none, none, .fields #[], #[]⟩
noncomputable def o471 (P : Params) : Obj := ⟨.type "tuple", none, .seq #[kS "e" 820, kS "ctx" 821, kS "value" 822, kS "index" 823] 0, #[]⟩
noncomputable def o472 (P : Params) : Obj := ⟨.type "tuple", none, .seq #[] 0, #[]⟩
noncomputable def o473 (P : Params) : Obj := ⟨.none, none, fD (st 67) (.ofString "picked") 0 [] .none .none .none .none none .none .none 0, #[]⟩
noncomputable def o474 (P : Params) : Obj := ⟨.type "code", none, .fields #[kS "picked" 817, kS "picked" 818, kS "/claim/cut.py" 819, .int 356 0, .int 2 0, .int 0 0, .int 0 0, .int 3 0, .ref 469, .bool true, .int 181 0, .ref 470, .none, .ref 471, .ref 472, .ref 473, .int 824 0, .int 356 0, kS "/claim/cut.py" 825], #[]⟩
noncomputable def o475 (P : Params) : Obj := ⟨.type "function", none, fD (st 67) (.ofString "picked") 3 [] .none .none .none (kS "gateloom.evaluate" 748) none (.ref 474) .none 0, #[]⟩
noncomputable def o476 (P : Params) : Obj := ⟨.type "tuple", none, .seq #[] 0, #[]⟩
noncomputable def o477 (P : Params) : Obj := ⟨.none, none, .fields #[], #[]⟩
noncomputable def o478 (P : Params) : Obj := ⟨.type "tuple", none, .seq #[kS "e" 830, kS "ctx" 831, kS "condition" 832, kS "known" 833] 0, #[]⟩
noncomputable def o479 (P : Params) : Obj := ⟨.type "tuple", none, .seq #[] 0, #[]⟩
noncomputable def o480 (P : Params) : Obj := ⟨.none, none, fD (st 68) (.ofString "conditional") 0 [] .none .none .none .none none .none .none 0, #[]⟩
noncomputable def o481 (P : Params) : Obj := ⟨.type "code", none, .fields #[kS "conditional" 827, kS "conditional" 828, kS "/claim/cut.py" 829, .int 362 0, .int 2 0, .int 0 0, .int 0 0, .int 3 0, .ref 476, .bool true, .int 181 0, .ref 477, .none, .ref 478, .ref 479, .ref 480, .int 834 0, .int 362 0, kS "/claim/cut.py" 835], #[]⟩
noncomputable def o482 (P : Params) : Obj := ⟨.type "function", none, fD (st 68) (.ofString "conditional") 3 [] .none .none .none (kS "gateloom.evaluate" 748) none (.ref 481) .none 0, #[]⟩
noncomputable def o483 (P : Params) : Obj := ⟨.type "tuple", none, .seq #[] 0, #[]⟩
noncomputable def o484 (P : Params) : Obj := ⟨.none, none, .fields #[], #[]⟩
noncomputable def o485 (P : Params) : Obj := ⟨.type "tuple", none, .seq #[kS "n" 840, kS "k" 841] 0, #[]⟩
noncomputable def o486 (P : Params) : Obj := ⟨.type "tuple", none, .seq #[] 0, #[]⟩
noncomputable def o487 (P : Params) : Obj := ⟨.none, none, fD (st 69) (.ofString "bits_needed") 0 [] .none .none .none .none none .none .none 0, #[]⟩
noncomputable def o488 (P : Params) : Obj := ⟨.type "code", none, .fields #[kS "bits_needed" 837, kS "bits_needed" 838, kS "/claim/cut.py" 839, .int 370 0, .int 1 0, .int 0 0, .int 0 0, .int 3 0, .ref 483, .bool true, .int 181 0, .ref 484, .none, .ref 485, .ref 486, .ref 487, .int 842 0, .int 370 0, kS "/claim/cut.py" 843], #[]⟩
noncomputable def o489 (P : Params) : Obj := ⟨.type "function", none, fD (st 69) (.ofString "bits_needed") 3 [] .none .none .none (kS "gateloom.evaluate" 748) none (.ref 488) .none 0, #[]⟩
noncomputable def o490 (P : Params) : Obj := ⟨.type "tuple", none, .seq #[] 0, #[]⟩
noncomputable def o491 (P : Params) : Obj := ⟨.none, none, .fields #[], #[]⟩
noncomputable def o492 (P : Params) : Obj := ⟨.type "tuple", none, .seq #[kS "e" 848, kS "ctx" 849, kS "w" 850, kS "name" 851, kS "n" 852] 0, #[]⟩
noncomputable def o493 (P : Params) : Obj := ⟨.type "tuple", none, .seq #[] 0, #[]⟩
noncomputable def o494 (P : Params) : Obj := ⟨.none, none, fD (st 70) (.ofString "system_value") 0 [] .none .none .none .none none .none .none 0, #[]⟩
noncomputable def o495 (P : Params) : Obj := ⟨.type "code", none, .fields #[kS "system_value" 845, kS "system_value" 846, kS "/claim/cut.py" 847, .int 375 0, .int 2 0, .int 0 0, .int 0 0, .int 3 0, .ref 490, .bool true, .int 181 0, .ref 491, .none, .ref 492, .ref 493, .ref 494, .int 853 0, .int 375 0, kS "/claim/cut.py" 854], #[]⟩
noncomputable def o496 (P : Params) : Obj := ⟨.type "function", none, fD (st 70) (.ofString "system_value") 3 [] .none .none .none (kS "gateloom.evaluate" 748) none (.ref 495) .none 0, #[]⟩
noncomputable def o497 (P : Params) : Obj := ⟨.type "tuple", none, .seq #[] 0, #[]⟩
noncomputable def o498 (P : Params) : Obj := ⟨.none, none, .fields #[], #[]⟩
noncomputable def o499 (P : Params) : Obj := ⟨.none, none, fD (st 71) (.ofString "evaluate") 0 [] .none .none .none .none none .none .none 0, #[]⟩
noncomputable def o500 (P : Params) : Obj := ⟨.type "code", none, .fields #[kS "evaluate" 856, kS "evaluate" 857, kS "/claim/cut.py" 858, .int 388 0, .int 2 0, .int 0 0, .int 0 0, .int 3 0, .ref 497, .bool true, .int 181 0, .ref 498, .none, .none, .none, .ref 499, .int 859 0, .int 388 0, kS "/claim/cut.py" 860], #[]⟩
noncomputable def o501 (P : Params) : Obj := ⟨.type "function", none, fD (st 71) (.ofString "evaluate") 3 [] .none .none .none (kS "gateloom.evaluate" 748) none (.ref 500) .none 0, #[]⟩
noncomputable def o502 (P : Params) : Obj := ⟨.type "tuple", none, .seq #[] 0, #[]⟩
noncomputable def o503 (P : Params) : Obj := ⟨.none, none, .fields #[], #[]⟩
noncomputable def o504 (P : Params) : Obj := ⟨.type "tuple", none, .seq #[kS "where" 865, kS "ctx" 866, kS "index" 867] 0, #[]⟩
noncomputable def o505 (P : Params) : Obj := ⟨.type "tuple", none, .seq #[] 0, #[]⟩
noncomputable def o506 (P : Params) : Obj := ⟨.none, none, fD (st 72) (.ofString "locate") 0 [] .none .none .none .none none .none .none 0, #[]⟩
noncomputable def o507 (P : Params) : Obj := ⟨.type "code", none, .fields #[kS "locate" 862, kS "locate" 863, kS "/claim/cut.py" 864, .int 419 0, .int 2 0, .int 0 0, .int 0 0, .int 3 0, .ref 502, .bool true, .int 181 0, .ref 503, .none, .ref 504, .ref 505, .ref 506, .int 868 0, .int 419 0, kS "/claim/cut.py" 869], #[]⟩
noncomputable def o508 (P : Params) : Obj := ⟨.type "function", none, fD (st 72) (.ofString "locate") 3 [] .none .none .none (kS "gateloom.evaluate" 748) none (.ref 507) .none 0, #[]⟩
noncomputable def t7 (P : Params) : BT := .node (boot_o_0 P) (.node (boot_o_1 P) (.node (o3v7 P) (.node (boot_o_7 P) (.node (o15 P) (.node (o31 P) (.node (o63 P) (.node (o127 P) (.node (o255 P) (.nil) (.nil)) (.node (o383 P) (.nil) (.nil))) (.node (o191 P) (.node (o319 P) (.nil) (.nil)) (.node (o447 P) (.nil) (.nil)))) (.node (o95 P) (.node (o159 P) (.node (o287 P) (.nil) (.nil)) (.node (o415 P) (.nil) (.nil))) (.node (o223 P) (.node (o351 P) (.nil) (.nil)) (.node (o479 P) (.nil) (.nil))))) (.node (o47 P) (.node (o79 P) (.node (o143 P) (.node (o271 P) (.nil) (.nil)) (.node (o399 P) (.nil) (.nil))) (.node (o207 P) (.node (o335 P) (.nil) (.nil)) (.node (o463 P) (.nil) (.nil)))) (.node (o111 P) (.node (o175 P) (.node (o303 P) (.nil) (.nil)) (.node (o431 P) (.nil) (.nil))) (.node (o239 P) (.node (o367 P) (.nil) (.nil)) (.node (o495 P) (.nil) (.nil)))))) (.node (o23 P) (.node (o39v1 P) (.node (o71 P) (.node (o135 P) (.node (o263 P) (.nil) (.nil)) (.node (o391 P) (.nil) (.nil))) (.node (o199 P) (.node (o327 P) (.nil) (.nil)) (.node (o455 P) (.nil) (.nil)))) (.node (o103 P) (.node (o167 P) (.node (o295 P) (.nil) (.nil)) (.node (o423 P) (.nil) (.nil))) (.node (o231 P) (.node (o359 P) (.nil) (.nil)) (.node (o487 P) (.nil) (.nil))))) (.node (o55 P) (.node (o87 P) (.node (o151 P) (.node (o279 P) (.nil) (.nil)) (.node (o407 P) (.nil) (.nil))) (.node (o215 P) (.node (o343 P) (.nil) (.nil)) (.node (o471 P) (.nil) (.nil)))) (.node (o119 P) (.node (o183 P) (.node (o311 P) (.nil) (.nil)) (.node (o439 P) (.nil) (.nil))) (.node (o247 P) (.node (o375 P) (.nil) (.nil)) (.node (o503 P) (.nil) (.nil))))))) (.node (o11 P) (.node (o19 P) (.node (o35 P) (.node (o67 P) (.node (o131 P) (.node (o259 P) (.nil) (.nil)) (.node (o387 P) (.nil) (.nil))) (.node (o195 P) (.node (o323 P) (.nil) (.nil)) (.node (o451 P) (.nil) (.nil)))) (.node (o99 P) (.node (o163 P) (.node (o291 P) (.nil) (.nil)) (.node (o419 P) (.nil) (.nil))) (.node (o227 P) (.node (o355 P) (.nil) (.nil)) (.node (o483 P) (.nil) (.nil))))) (.node (o51 P) (.node (o83 P) (.node (o147 P) (.node (o275 P) (.nil) (.nil)) (.node (o403 P) (.nil) (.nil))) (.node (o211 P) (.node (o339 P) (.nil) (.nil)) (.node (o467 P) (.nil) (.nil)))) (.node (o115 P) (.node (o179 P) (.node (o307 P) (.nil) (.nil)) (.node (o435 P) (.nil) (.nil))) (.node (o243 P) (.node (o371 P) (.nil) (.nil)) (.node (o499 P) (.nil) (.nil)))))) (.node (o27 P) (.node (o43 P) (.node (o75 P) (.node (o139 P) (.node (o267 P) (.nil) (.nil)) (.node (o395 P) (.nil) (.nil))) (.node (o203 P) (.node (o331 P) (.nil) (.nil)) (.node (o459 P) (.nil) (.nil)))) (.node (o107 P) (.node (o171 P) (.node (o299 P) (.nil) (.nil)) (.node (o427 P) (.nil) (.nil))) (.node (o235 P) (.node (o363 P) (.nil) (.nil)) (.node (o491 P) (.nil) (.nil))))) (.node (o59 P) (.node (o91 P) (.node (o155 P) (.node (o283 P) (.nil) (.nil)) (.node (o411 P) (.nil) (.nil))) (.node (o219 P) (.node (o347 P) (.nil) (.nil)) (.node (o475 P) (.nil) (.nil)))) (.node (o123 P) (.node (o187 P) (.node (o315 P) (.nil) (.nil)) (.node (o443 P) (.nil) (.nil))) (.node (o251 P) (.node (o379 P) (.nil) (.nil)) (.node (o507 P) (.nil) (.nil)))))))) (.node (boot_o_5 P) (.node (boot_o_9 P) (.node (o17 P) (.node (o33 P) (.node (o65 P) (.node (o129 P) (.node (o257 P) (.nil) (.nil)) (.node (o385 P) (.nil) (.nil))) (.node (o193 P) (.node (o321 P) (.nil) (.nil)) (.node (o449 P) (.nil) (.nil)))) (.node (o97 P) (.node (o161 P) (.node (o289 P) (.nil) (.nil)) (.node (o417 P) (.nil) (.nil))) (.node (o225 P) (.node (o353 P) (.nil) (.nil)) (.node (o481 P) (.nil) (.nil))))) (.node (o49 P) (.node (o81 P) (.node (o145 P) (.node (o273 P) (.nil) (.nil)) (.node (o401 P) (.nil) (.nil))) (.node (o209 P) (.node (o337 P) (.nil) (.nil)) (.node (o465 P) (.nil) (.nil)))) (.node (o113 P) (.node (o177 P) (.node (o305 P) (.nil) (.nil)) (.node (o433 P) (.nil) (.nil))) (.node (o241 P) (.node (o369 P) (.nil) (.nil)) (.node (o497 P) (.nil) (.nil)))))) (.node (o25 P) (.node (o41 P) (.node (o73 P) (.node (o137 P) (.node (o265 P) (.nil) (.nil)) (.node (o393 P) (.nil) (.nil))) (.node (o201 P) (.node (o329 P) (.nil) (.nil)) (.node (o457 P) (.nil) (.nil)))) (.node (o105 P) (.node (o169 P) (.node (o297 P) (.nil) (.nil)) (.node (o425 P) (.nil) (.nil))) (.node (o233 P) (.node (o361 P) (.nil) (.nil)) (.node (o489 P) (.nil) (.nil))))) (.node (o57 P) (.node (o89 P) (.node (o153 P) (.node (o281 P) (.nil) (.nil)) (.node (o409 P) (.nil) (.nil))) (.node (o217 P) (.node (o345 P) (.nil) (.nil)) (.node (o473 P) (.nil) (.nil)))) (.node (o121 P) (.node (o185 P) (.node (o313 P) (.nil) (.nil)) (.node (o441 P) (.nil) (.nil))) (.node (o249 P) (.node (o377 P) (.nil) (.nil)) (.node (o505 P) (.nil) (.nil))))))) (.node (o13 P) (.node (o21 P) (.node (o37 P) (.node (o69 P) (.node (o133 P) (.node (o261 P) (.nil) (.nil)) (.node (o389 P) (.nil) (.nil))) (.node (o197 P) (.node (o325 P) (.nil) (.nil)) (.node (o453 P) (.nil) (.nil)))) (.node (o101 P) (.node (o165 P) (.node (o293 P) (.nil) (.nil)) (.node (o421 P) (.nil) (.nil))) (.node (o229 P) (.node (o357 P) (.nil) (.nil)) (.node (o485 P) (.nil) (.nil))))) (.node (o53 P) (.node (o85 P) (.node (o149 P) (.node (o277 P) (.nil) (.nil)) (.node (o405 P) (.nil) (.nil))) (.node (o213 P) (.node (o341 P) (.nil) (.nil)) (.node (o469 P) (.nil) (.nil)))) (.node (o117 P) (.node (o181 P) (.node (o309 P) (.nil) (.nil)) (.node (o437 P) (.nil) (.nil))) (.node (o245 P) (.node (o373 P) (.nil) (.nil)) (.node (o501 P) (.nil) (.nil)))))) (.node (o29 P) (.node (o45 P) (.node (o77 P) (.node (o141 P) (.node (o269 P) (.nil) (.nil)) (.node (o397 P) (.nil) (.nil))) (.node (o205 P) (.node (o333 P) (.nil) (.nil)) (.node (o461 P) (.nil) (.nil)))) (.node (o109 P) (.node (o173 P) (.node (o301 P) (.nil) (.nil)) (.node (o429 P) (.nil) (.nil))) (.node (o237 P) (.node (o365 P) (.nil) (.nil)) (.node (o493 P) (.nil) (.nil))))) (.node (o61 P) (.node (o93 P) (.node (o157 P) (.node (o285 P) (.nil) (.nil)) (.node (o413 P) (.nil) (.nil))) (.node (o221 P) (.node (o349 P) (.nil) (.nil)) (.node (o477 P) (.nil) (.nil)))) (.node (o125 P) (.node (o189 P) (.node (o317 P) (.nil) (.nil)) (.node (o445 P) (.nil) (.nil))) (.node (o253 P) (.node (o381 P) (.nil) (.nil)) (.nil)))))))) (.node (o2v1 P) (.node (boot_o_4 P) (.node (boot_o_8 P) (.node (o16 P) (.node (o32 P) (.node (o64 P) (.node (o128 P) (.node (o256 P) (.nil) (.nil)) (.node (o384 P) (.nil) (.nil))) (.node (o192 P) (.node (o320 P) (.nil) (.nil)) (.node (o448 P) (.nil) (.nil)))) (.node (o96 P) (.node (o160 P) (.node (o288 P) (.nil) (.nil)) (.node (o416 P) (.nil) (.nil))) (.node (o224 P) (.node (o352 P) (.nil) (.nil)) (.node (o480 P) (.nil) (.nil))))) (.node (o48 P) (.node (o80 P) (.node (o144 P) (.node (o272 P) (.nil) (.nil)) (.node (o400 P) (.nil) (.nil))) (.node (o208 P) (.node (o336 P) (.nil) (.nil)) (.node (o464 P) (.nil) (.nil)))) (.node (o112 P) (.node (o176 P) (.node (o304 P) (.nil) (.nil)) (.node (o432 P) (.nil) (.nil))) (.node (o240 P) (.node (o368 P) (.nil) (.nil)) (.node (o496 P) (.nil) (.nil)))))) (.node (o24 P) (.node (o40 P) (.node (o72 P) (.node (o136 P) (.node (o264 P) (.nil) (.nil)) (.node (o392 P) (.nil) (.nil))) (.node (o200 P) (.node (o328 P) (.nil) (.nil)) (.node (o456 P) (.nil) (.nil)))) (.node (o104 P) (.node (o168 P) (.node (o296 P) (.nil) (.nil)) (.node (o424 P) (.nil) (.nil))) (.node (o232 P) (.node (o360 P) (.nil) (.nil)) (.node (o488 P) (.nil) (.nil))))) (.node (o56 P) (.node (o88 P) (.node (o152 P) (.node (o280 P) (.nil) (.nil)) (.node (o408 P) (.nil) (.nil))) (.node (o216 P) (.node (o344 P) (.nil) (.nil)) (.node (o472 P) (.nil) (.nil)))) (.node (o120 P) (.node (o184 P) (.node (o312 P) (.nil) (.nil)) (.node (o440 P) (.nil) (.nil))) (.node (o248 P) (.node (o376 P) (.nil) (.nil)) (.node (o504 P) (.nil) (.nil))))))) (.node (o12v7 P) (.node (o20 P) (.node (o36 P) (.node (o68 P) (.node (o132 P) (.node (o260 P) (.nil) (.nil)) (.node (o388 P) (.nil) (.nil))) (.node (o196 P) (.node (o324 P) (.nil) (.nil)) (.node (o452 P) (.nil) (.nil)))) (.node (o100 P) (.node (o164 P) (.node (o292 P) (.nil) (.nil)) (.node (o420 P) (.nil) (.nil))) (.node (o228 P) (.node (o356 P) (.nil) (.nil)) (.node (o484 P) (.nil) (.nil))))) (.node (o52 P) (.node (o84 P) (.node (o148 P) (.node (o276 P) (.nil) (.nil)) (.node (o404 P) (.nil) (.nil))) (.node (o212 P) (.node (o340 P) (.nil) (.nil)) (.node (o468 P) (.nil) (.nil)))) (.node (o116 P) (.node (o180 P) (.node (o308 P) (.nil) (.nil)) (.node (o436 P) (.nil) (.nil))) (.node (o244 P) (.node (o372 P) (.nil) (.nil)) (.node (o500 P) (.nil) (.nil)))))) (.node (o28 P) (.node (o44 P) (.node (o76 P) (.node (o140 P) (.node (o268 P) (.nil) (.nil)) (.node (o396 P) (.nil) (.nil))) (.node (o204 P) (.node (o332 P) (.nil) (.nil)) (.node (o460 P) (.nil) (.nil)))) (.node (o108 P) (.node (o172 P) (.node (o300 P) (.nil) (.nil)) (.node (o428 P) (.nil) (.nil))) (.node (o236 P) (.node (o364 P) (.nil) (.nil)) (.node (o492 P) (.nil) (.nil))))) (.node (o60 P) (.node (o92 P) (.node (o156 P) (.node (o284 P) (.nil) (.nil)) (.node (o412 P) (.nil) (.nil))) (.node (o220 P) (.node (o348 P) (.nil) (.nil)) (.node (o476 P) (.nil) (.nil)))) (.node (o124 P) (.node (o188 P) (.node (o316 P) (.nil) (.nil)) (.node (o444 P) (.nil) (.nil))) (.node (o252 P) (.node (o380 P) (.nil) (.nil)) (.node (o508 P) (.nil) (.nil)))))))) (.node (boot_o_6 P) (.node (boot_o_10 P) (.node (o18 P) (.node (o34 P) (.node (o66 P) (.node (o130 P) (.node (o258 P) (.nil) (.nil)) (.node (o386 P) (.nil) (.nil))) (.node (o194 P) (.node (o322 P) (.nil) (.nil)) (.node (o450 P) (.nil) (.nil)))) (.node (o98 P) (.node (o162 P) (.node (o290 P) (.nil) (.nil)) (.node (o418 P) (.nil) (.nil))) (.node (o226 P) (.node (o354 P) (.nil) (.nil)) (.node (o482 P) (.nil) (.nil))))) (.node (o50 P) (.node (o82 P) (.node (o146 P) (.node (o274 P) (.nil) (.nil)) (.node (o402 P) (.nil) (.nil))) (.node (o210 P) (.node (o338 P) (.nil) (.nil)) (.node (o466 P) (.nil) (.nil)))) (.node (o114 P) (.node (o178 P) (.node (o306 P) (.nil) (.nil)) (.node (o434 P) (.nil) (.nil))) (.node (o242 P) (.node (o370 P) (.nil) (.nil)) (.node (o498 P) (.nil) (.nil)))))) (.node (o26 P) (.node (o42 P) (.node (o74 P) (.node (o138 P) (.node (o266 P) (.nil) (.nil)) (.node (o394 P) (.nil) (.nil))) (.node (o202 P) (.node (o330 P) (.nil) (.nil)) (.node (o458 P) (.nil) (.nil)))) (.node (o106 P) (.node (o170 P) (.node (o298 P) (.nil) (.nil)) (.node (o426 P) (.nil) (.nil))) (.node (o234 P) (.node (o362 P) (.nil) (.nil)) (.node (o490 P) (.nil) (.nil))))) (.node (o58 P) (.node (o90 P) (.node (o154 P) (.node (o282 P) (.nil) (.nil)) (.node (o410 P) (.nil) (.nil))) (.node (o218 P) (.node (o346 P) (.nil) (.nil)) (.node (o474 P) (.nil) (.nil)))) (.node (o122 P) (.node (o186 P) (.node (o314 P) (.nil) (.nil)) (.node (o442 P) (.nil) (.nil))) (.node (o250 P) (.node (o378 P) (.nil) (.nil)) (.node (o506 P) (.nil) (.nil))))))) (.node (o14 P) (.node (o22 P) (.node (o38 P) (.node (o70 P) (.node (o134 P) (.node (o262 P) (.nil) (.nil)) (.node (o390 P) (.nil) (.nil))) (.node (o198 P) (.node (o326 P) (.nil) (.nil)) (.node (o454 P) (.nil) (.nil)))) (.node (o102 P) (.node (o166 P) (.node (o294 P) (.nil) (.nil)) (.node (o422 P) (.nil) (.nil))) (.node (o230 P) (.node (o358 P) (.nil) (.nil)) (.node (o486 P) (.nil) (.nil))))) (.node (o54 P) (.node (o86 P) (.node (o150 P) (.node (o278 P) (.nil) (.nil)) (.node (o406 P) (.nil) (.nil))) (.node (o214 P) (.node (o342 P) (.nil) (.nil)) (.node (o470 P) (.nil) (.nil)))) (.node (o118 P) (.node (o182 P) (.node (o310 P) (.nil) (.nil)) (.node (o438 P) (.nil) (.nil))) (.node (o246 P) (.node (o374 P) (.nil) (.nil)) (.node (o502 P) (.nil) (.nil)))))) (.node (o30 P) (.node (o46 P) (.node (o78 P) (.node (o142 P) (.node (o270 P) (.nil) (.nil)) (.node (o398 P) (.nil) (.nil))) (.node (o206 P) (.node (o334 P) (.nil) (.nil)) (.node (o462 P) (.nil) (.nil)))) (.node (o110 P) (.node (o174 P) (.node (o302 P) (.nil) (.nil)) (.node (o430 P) (.nil) (.nil))) (.node (o238 P) (.node (o366 P) (.nil) (.nil)) (.node (o494 P) (.nil) (.nil))))) (.node (o62 P) (.node (o94 P) (.node (o158 P) (.node (o286 P) (.nil) (.nil)) (.node (o414 P) (.nil) (.nil))) (.node (o222 P) (.node (o350 P) (.nil) (.nil)) (.node (o478 P) (.nil) (.nil)))) (.node (o126 P) (.node (o190 P) (.node (o318 P) (.nil) (.nil)) (.node (o446 P) (.nil) (.nil))) (.node (o254 P) (.node (o382 P) (.nil) (.nil)) (.nil))))))))
noncomputable def g6 : List Stmt := [st 61, st 62, st 63, st 64, st 65, st 66, st 67, st 68, st 69, st 70, st 71, st 72]
noncomputable abbrev S7 (w : World) (os : OsState) : SharedT := ⟨t7 w.params, 509, {}, #[], {}, 871, os⟩
theorem pc6 (w : World) (os : OsState) : segRun treeTable PW w 11 an0 1 376 (S6 w os).abs (piecesOf g6 env0 cE ⟨267, 0, 286, 49⟩ fr0) = some (.next, (S7 w os).abs, cE, ⟨419, 0, 425, 40⟩) := by
  refine segRun_of ?_
  rewrite [TE_segRunT, TE_tree]
  kernel_rfl
noncomputable def o3v8 (P : Params) : Obj := ⟨.type "dict", none, .dict #[kE P "__name__" 165 (kS "gateloom.design" 915), kE P "__doc__" 166 .none, kE P "__package__" 167 .none, kE P "__loader__" 168 (.builtin "__main__.__loader__#opaque"), kE P "__spec__" 169 .none, kE P "__annotations__" 170 (.ref 6), kE P "__builtins__" 171 (.ref 4), kE P "__file__" 173 (kS "/claim/cut.py" 172), kE P "__cached__" 174 .none, kE P "_wall" 193 (.ref 21), kE P "GateloomError" 231 (.ref 39), kE P "DesignError" 247 (.ref 52), kE P "mask" 256 (.ref 61), kE P "vec" 267 (.ref 69), kE P "zeros" 274 (.ref 76), kE P "all_x" 282 (.ref 83), kE P "all_z" 289 (.ref 90), kE P "from_int" 297 (.ref 97), kE P "is_known" 304 (.ref 104), kE P "to_int" 315 (.ref 111), kE P "code" 323 (.ref 118), kE P "slice_vec" 339 (.ref 125), kE P "put_slice" 355 (.ref 132), kE P "concat" 366 (.ref 139), kE P "extend" 379 (.ref 146), kE P "z_to_x" 386 (.ref 153), kE P "truth" 393 (.ref 160), kE P "add" 403 (.ref 167), kE P "sub" 411 (.ref 174), kE P "mul" 419 (.ref 181), kE P "neg" 426 (.ref 188), kE P "quotient" 435 (.ref 195), kE P "div" 446 (.ref 202), kE P "mod" 457 (.ref 209), kE P "raise_whole" 470 (.ref 216), kE P "power" 483 (.ref 223), kE P "shift_left" 493 (.ref 230), kE P "shift_right" 502 (.ref 237), kE P "shift_arith" 517 (.ref 244), kE P "ordered" 528 (.ref 251), kE P "less" 538 (.ref 258), kE P "less_equal" 548 (.ref 265), kE P "greater" 557 (.ref 272), kE P "greater_equal" 566 (.ref 279), kE P "one_bit" 575 (.ref 286), kE P "bit_not" 585 (.ref 293), kE P "bit_and" 599 (.ref 300), kE P "bit_or" 614 (.ref 307), kE P "bit_xor" 623 (.ref 314), kE P "bit_xnor" 631 (.ref 321), kE P "reduce_and" 641 (.ref 328), kE P "reduce_nand" 648 (.ref 335), kE P "reduce_or" 655 (.ref 342), kE P "reduce_nor" 662 (.ref 349), kE P "reduce_xor" 671 (.ref 356), kE P "reduce_xnor" 678 (.ref 363), kE P "logic_not" 685 (.ref 370), kE P "logic_and" 693 (.ref 377), kE P "logic_or" 701 (.ref 384), kE P "equal" 710 (.ref 391), kE P "not_equal" 718 (.ref 398), kE P "case_equal" 726 (.ref 405), kE P "case_not_equal" 734 (.ref 412), kE P "choose" 747 (.ref 419), kE P "unary" 757 (.ref 426), kE P "arithmetic" 767 (.ref 433), kE P "comparison" 777 (.ref 440), kE P "bitwise" 786 (.ref 447), kE P "binary" 797 (.ref 454), kE P "whole_of" 806 (.ref 461), kE P "memory_word" 816 (.ref 468), kE P "picked" 826 (.ref 475), kE P "conditional" 836 (.ref 482), kE P "bits_needed" 844 (.ref 489), kE P "system_value" 855 (.ref 496), kE P "evaluate" 861 (.ref 501), kE P "locate" 870 (.ref 508), kE P "holder_width" 878 (.ref 515), kE P "resolve_target" 897 (.ref 522), kE P "store_rows" 914 (.ref 529), kE P "net_kinds" 922 (.ref 536)] 81, #[]⟩
noncomputable def o12v8 (P : Params) : Obj := ⟨.none, none, .fields #[.int 1 0, .int 0 0, .ref 20, .int 5 0, .int 0 0, .ref 27, .int 11 0, .int 0 0, .ref 48, .int 14 0, .int 0 0, .ref 60, .int 16 0, .int 0 0, .ref 68, .int 19 0, .int 0 0, .ref 75, .int 21 0, .int 0 0, .ref 82, .int 24 0, .int 0 0, .ref 89, .int 26 0, .int 0 0, .ref 96, .int 28 0, .int 0 0, .ref 103, .int 30 0, .int 0 0, .ref 110, .int 37 0, .int 0 0, .ref 117, .int 39 0, .int 0 0, .ref 124, .int 50 0, .int 0 0, .ref 131, .int 61 0, .int 0 0, .ref 138, .int 70 0, .int 0 0, .ref 145, .int 80 0, .int 0 0, .ref 152, .int 82 0, .int 0 0, .ref 159, .int 89 0, .int 0 0, .ref 166, .int 93 0, .int 0 0, .ref 173, .int 97 0, .int 0 0, .ref 180, .int 101 0, .int 0 0, .ref 187, .int 105 0, .int 0 0, .ref 194, .int 110 0, .int 0 0, .ref 201, .int 116 0, .int 0 0, .ref 208, .int 122 0, .int 0 0, .ref 215, .int 133 0, .int 0 0, .ref 222, .int 148 0, .int 0 0, .ref 229, .int 156 0, .int 0 0, .ref 236, .int 163 0, .int 0 0, .ref 243, .int 173 0, .int 0 0, .ref 250, .int 181 0, .int 0 0, .ref 257, .int 186 0, .int 0 0, .ref 264, .int 191 0, .int 0 0, .ref 271, .int 193 0, .int 0 0, .ref 278, .int 196 0, .int 0 0, .ref 285, .int 198 0, .int 0 0, .ref 292, .int 201 0, .int 0 0, .ref 299, .int 206 0, .int 0 0, .ref 306, .int 212 0, .int 0 0, .ref 313, .int 215 0, .int 0 0, .ref 320, .int 217 0, .int 0 0, .ref 327, .int 222 0, .int 0 0, .ref 334, .int 224 0, .int 0 0, .ref 341, .int 226 0, .int 0 0, .ref 348, .int 228 0, .int 0 0, .ref 355, .int 237 0, .int 0 0, .ref 362, .int 239 0, .int 0 0, .ref 369, .int 241 0, .int 0 0, .ref 376, .int 243 0, .int 0 0, .ref 383, .int 245 0, .int 0 0, .ref 390, .int 250 0, .int 0 0, .ref 397, .int 252 0, .int 0 0, .ref 404, .int 254 0, .int 0 0, .ref 411, .int 256 0, .int 0 0, .ref 418, .int 267 0, .int 0 0, .ref 425, .int 287 0, .int 0 0, .ref 432, .int 305 0, .int 0 0, .ref 439, .int 323 0, .int 0 0, .ref 446, .int 337 0, .int 0 0, .ref 453, .int 346 0, .int 0 0, .ref 460, .int 348 0, .int 0 0, .ref 467, .int 356 0, .int 0 0, .ref 474, .int 362 0, .int 0 0, .ref 481, .int 370 0, .int 0 0, .ref 488, .int 375 0, .int 0 0, .ref 495, .int 388 0, .int 0 0, .ref 500, .int 419 0, .int 0 0, .ref 507, .int 426 0, .int 0 0, .ref 514, .int 430 0, .int 0 0, .ref 521, .int 449 0, .int 0 0, .ref 528, .int 460 0, .int 0 0, .ref 535], #[]⟩
noncomputable def o509 (P : Params) : Obj := ⟨.type "tuple", none, .seq #[] 0, #[]⟩
noncomputable def o510 (P : Params) : Obj := ⟨.none, none, .fields #[], #[]⟩
noncomputable def o511 (P : Params) : Obj := ⟨.type "tuple", none, .seq #[kS "part" 874, kS "ctx" 875] 0, #[]⟩
noncomputable def o512 (P : Params) : Obj := ⟨.type "tuple", none, .seq #[] 0, #[]⟩
noncomputable def o513 (P : Params) : Obj := ⟨.none, none, fD (st 73) (.ofString "holder_width") 0 [] .none .none .none .none none .none .none 0, #[]⟩
noncomputable def o514 (P : Params) : Obj := ⟨.type "code", none, .fields #[kS "holder_width" 871, kS "holder_width" 872, kS "/claim/cut.py" 873, .int 426 0, .int 2 0, .int 0 0, .int 0 0, .int 3 0, .ref 509, .bool true, .int 181 0, .ref 510, .none, .ref 511, .ref 512, .ref 513, .int 876 0, .int 426 0, kS "/claim/cut.py" 877], #[]⟩
noncomputable def o515 (P : Params) : Obj := ⟨.type "function", none, fD (st 73) (.ofString "holder_width") 3 [] .none .none .none (kS "gateloom.evaluate" 748) none (.ref 514) .none 0, #[]⟩
noncomputable def o516 (P : Params) : Obj := ⟨.type "tuple", none, .seq #[] 0, #[]⟩
noncomputable def o517 (P : Params) : Obj := ⟨.none, none, .fields #[], #[]⟩
noncomputable def o518 (P : Params) : Obj := ⟨.type "tuple", none, .seq #[kS "lv" 882, kS "ctx" 883, kS "rows" 884, kS "take" 885, kS "part" 886, kS "kind" 887, kS "w" 888, kS "ref" 889, kS "word" 890, kS "where" 891, kS "place" 892, kS "index" 893, kS "lo" 894] 0, #[]⟩
noncomputable def o519 (P : Params) : Obj := ⟨.type "tuple", none, .seq #[] 0, #[]⟩
noncomputable def o520 (P : Params) : Obj := ⟨.none, none, fD (st 74) (.ofString "resolve_target") 0 [] .none .none .none .none none .none .none 0, #[]⟩
noncomputable def o521 (P : Params) : Obj := ⟨.type "code", none, .fields #[kS "resolve_target" 879, kS "resolve_target" 880, kS "/claim/cut.py" 881, .int 430 0, .int 2 0, .int 0 0, .int 0 0, .int 3 0, .ref 516, .bool true, .int 181 0, .ref 517, .none, .ref 518, .ref 519, .ref 520, .int 895 0, .int 430 0, kS "/claim/cut.py" 896], #[]⟩
noncomputable def o522 (P : Params) : Obj := ⟨.type "function", none, fD (st 74) (.ofString "resolve_target") 3 [] .none .none .none (kS "gateloom.evaluate" 748) none (.ref 521) .none 0, #[]⟩
noncomputable def o523 (P : Params) : Obj := ⟨.type "tuple", none, .seq #[] 0, #[]⟩
noncomputable def o524 (P : Params) : Obj := ⟨.none, none, .fields #[], #[]⟩
noncomputable def o525 (P : Params) : Obj := ⟨.type "tuple", none, .seq #[kS "rows" 901, kS "value" 902, kS "ctx" 903, kS "changed" 904, kS "kind" 905, kS "ref" 906, kS "place" 907, kS "lo" 908, kS "w" 909, kS "take" 910, kS "piece" 911] 0, #[]⟩
noncomputable def o526 (P : Params) : Obj := ⟨.type "tuple", none, .seq #[] 0, #[]⟩
noncomputable def o527 (P : Params) : Obj := ⟨.none, none, fD (st 75) (.ofString "store_rows") 0 [] .none .none .none .none none .none .none 0, #[]⟩
noncomputable def o528 (P : Params) : Obj := ⟨.type "code", none, .fields #[kS "store_rows" 898, kS "store_rows" 899, kS "/claim/cut.py" 900, .int 449 0, .int 3 0, .int 0 0, .int 0 0, .int 3 0, .ref 523, .bool true, .int 181 0, .ref 524, .none, .ref 525, .ref 526, .ref 527, .int 912 0, .int 449 0, kS "/claim/cut.py" 913], #[]⟩
noncomputable def o529 (P : Params) : Obj := ⟨.type "function", none, fD (st 75) (.ofString "store_rows") 3 [] .none .none .none (kS "gateloom.evaluate" 748) none (.ref 528) .none 0, #[]⟩
noncomputable def o530 (P : Params) : Obj := ⟨.type "tuple", none, .seq #[] 0, #[]⟩
noncomputable def o531 (P : Params) : Obj := ⟨.none, none, .fields #[], #[]⟩
noncomputable def o532 (P : Params) : Obj := ⟨.type "tuple", none, .seq #[] 0, #[]⟩
noncomputable def o533 (P : Params) : Obj := ⟨.type "tuple", none, .seq #[] 0, #[]⟩
noncomputable def o534 (P : Params) : Obj := ⟨.none, none, fD (st 77) (.ofString "net_kinds") 0 [] .none .none .none .none none .none .none 0, #[]⟩
noncomputable def o535 (P : Params) : Obj := ⟨.type "code", none, .fields #[kS "net_kinds" 917, kS "net_kinds" 918, kS "/claim/cut.py" 919, .int 460 0, .int 0 0, .int 0 0, .int 0 0, .int 3 0, .ref 530, .bool true, .int 181 0, .ref 531, .none, .ref 532, .ref 533, .ref 534, .int 920 0, .int 460 0, kS "/claim/cut.py" 921], #[]⟩
noncomputable def o536 (P : Params) : Obj := ⟨.type "function", none, fD (st 77) (.ofString "net_kinds") 3 [] .none .none .none (kS "gateloom.design" 915) none (.ref 535) .none 0, #[]⟩
noncomputable def t8 (P : Params) : BT := .node (boot_o_0 P) (.node (boot_o_1 P) (.node (o3v8 P) (.node (boot_o_7 P) (.node (o15 P) (.node (o31 P) (.node (o63 P) (.node (o127 P) (.node (o255 P) (.node (o511 P) (.nil) (.nil)) (.nil)) (.node (o383 P) (.nil) (.nil))) (.node (o191 P) (.node (o319 P) (.nil) (.nil)) (.node (o447 P) (.nil) (.nil)))) (.node (o95 P) (.node (o159 P) (.node (o287 P) (.nil) (.nil)) (.node (o415 P) (.nil) (.nil))) (.node (o223 P) (.node (o351 P) (.nil) (.nil)) (.node (o479 P) (.nil) (.nil))))) (.node (o47 P) (.node (o79 P) (.node (o143 P) (.node (o271 P) (.node (o527 P) (.nil) (.nil)) (.nil)) (.node (o399 P) (.nil) (.nil))) (.node (o207 P) (.node (o335 P) (.nil) (.nil)) (.node (o463 P) (.nil) (.nil)))) (.node (o111 P) (.node (o175 P) (.node (o303 P) (.nil) (.nil)) (.node (o431 P) (.nil) (.nil))) (.node (o239 P) (.node (o367 P) (.nil) (.nil)) (.node (o495 P) (.nil) (.nil)))))) (.node (o23 P) (.node (o39v1 P) (.node (o71 P) (.node (o135 P) (.node (o263 P) (.node (o519 P) (.nil) (.nil)) (.nil)) (.node (o391 P) (.nil) (.nil))) (.node (o199 P) (.node (o327 P) (.nil) (.nil)) (.node (o455 P) (.nil) (.nil)))) (.node (o103 P) (.node (o167 P) (.node (o295 P) (.nil) (.nil)) (.node (o423 P) (.nil) (.nil))) (.node (o231 P) (.node (o359 P) (.nil) (.nil)) (.node (o487 P) (.nil) (.nil))))) (.node (o55 P) (.node (o87 P) (.node (o151 P) (.node (o279 P) (.node (o535 P) (.nil) (.nil)) (.nil)) (.node (o407 P) (.nil) (.nil))) (.node (o215 P) (.node (o343 P) (.nil) (.nil)) (.node (o471 P) (.nil) (.nil)))) (.node (o119 P) (.node (o183 P) (.node (o311 P) (.nil) (.nil)) (.node (o439 P) (.nil) (.nil))) (.node (o247 P) (.node (o375 P) (.nil) (.nil)) (.node (o503 P) (.nil) (.nil))))))) (.node (o11 P) (.node (o19 P) (.node (o35 P) (.node (o67 P) (.node (o131 P) (.node (o259 P) (.node (o515 P) (.nil) (.nil)) (.nil)) (.node (o387 P) (.nil) (.nil))) (.node (o195 P) (.node (o323 P) (.nil) (.nil)) (.node (o451 P) (.nil) (.nil)))) (.node (o99 P) (.node (o163 P) (.node (o291 P) (.nil) (.nil)) (.node (o419 P) (.nil) (.nil))) (.node (o227 P) (.node (o355 P) (.nil) (.nil)) (.node (o483 P) (.nil) (.nil))))) (.node (o51 P) (.node (o83 P) (.node (o147 P) (.node (o275 P) (.node (o531 P) (.nil) (.nil)) (.nil)) (.node (o403 P) (.nil) (.nil))) (.node (o211 P) (.node (o339 P) (.nil) (.nil)) (.node (o467 P) (.nil) (.nil)))) (.node (o115 P) (.node (o179 P) (.node (o307 P) (.nil) (.nil)) (.node (o435 P) (.nil) (.nil))) (.node (o243 P) (.node (o371 P) (.nil) (.nil)) (.node (o499 P) (.nil) (.nil)))))) (.node (o27 P) (.node (o43 P) (.node (o75 P) (.node (o139 P) (.node (o267 P) (.node (o523 P) (.nil) (.nil)) (.nil)) (.node (o395 P) (.nil) (.nil))) (.node (o203 P) (.node (o331 P) (.nil) (.nil)) (.node (o459 P) (.nil) (.nil)))) (.node (o107 P) (.node (o171 P) (.node (o299 P) (.nil) (.nil)) (.node (o427 P) (.nil) (.nil))) (.node (o235 P) (.node (o363 P) (.nil) (.nil)) (.node (o491 P) (.nil) (.nil))))) (.node (o59 P) (.node (o91 P) (.node (o155 P) (.node (o283 P) (.nil) (.nil)) (.node (o411 P) (.nil) (.nil))) (.node (o219 P) (.node (o347 P) (.nil) (.nil)) (.node (o475 P) (.nil) (.nil)))) (.node (o123 P) (.node (o187 P) (.node (o315 P) (.nil) (.nil)) (.node (o443 P) (.nil) (.nil))) (.node (o251 P) (.node (o379 P) (.nil) (.nil)) (.node (o507 P) (.nil) (.nil)))))))) (.node (boot_o_5 P) (.node (boot_o_9 P) (.node (o17 P) (.node (o33 P) (.node (o65 P) (.node (o129 P) (.node (o257 P) (.node (o513 P) (.nil) (.nil)) (.nil)) (.node (o385 P) (.nil) (.nil))) (.node (o193 P) (.node (o321 P) (.nil) (.nil)) (.node (o449 P) (.nil) (.nil)))) (.node (o97 P) (.node (o161 P) (.node (o289 P) (.nil) (.nil)) (.node (o417 P) (.nil) (.nil))) (.node (o225 P) (.node (o353 P) (.nil) (.nil)) (.node (o481 P) (.nil) (.nil))))) (.node (o49 P) (.node (o81 P) (.node (o145 P) (.node (o273 P) (.node (o529 P) (.nil) (.nil)) (.nil)) (.node (o401 P) (.nil) (.nil))) (.node (o209 P) (.node (o337 P) (.nil) (.nil)) (.node (o465 P) (.nil) (.nil)))) (.node (o113 P) (.node (o177 P) (.node (o305 P) (.nil) (.nil)) (.node (o433 P) (.nil) (.nil))) (.node (o241 P) (.node (o369 P) (.nil) (.nil)) (.node (o497 P) (.nil) (.nil)))))) (.node (o25 P) (.node (o41 P) (.node (o73 P) (.node (o137 P) (.node (o265 P) (.node (o521 P) (.nil) (.nil)) (.nil)) (.node (o393 P) (.nil) (.nil))) (.node (o201 P) (.node (o329 P) (.nil) (.nil)) (.node (o457 P) (.nil) (.nil)))) (.node (o105 P) (.node (o169 P) (.node (o297 P) (.nil) (.nil)) (.node (o425 P) (.nil) (.nil))) (.node (o233 P) (.node (o361 P) (.nil) (.nil)) (.node (o489 P) (.nil) (.nil))))) (.node (o57 P) (.node (o89 P) (.node (o153 P) (.node (o281 P) (.nil) (.nil)) (.node (o409 P) (.nil) (.nil))) (.node (o217 P) (.node (o345 P) (.nil) (.nil)) (.node (o473 P) (.nil) (.nil)))) (.node (o121 P) (.node (o185 P) (.node (o313 P) (.nil) (.nil)) (.node (o441 P) (.nil) (.nil))) (.node (o249 P) (.node (o377 P) (.nil) (.nil)) (.node (o505 P) (.nil) (.nil))))))) (.node (o13 P) (.node (o21 P) (.node (o37 P) (.node (o69 P) (.node (o133 P) (.node (o261 P) (.node (o517 P) (.nil) (.nil)) (.nil)) (.node (o389 P) (.nil) (.nil))) (.node (o197 P) (.node (o325 P) (.nil) (.nil)) (.node (o453 P) (.nil) (.nil)))) (.node (o101 P) (.node (o165 P) (.node (o293 P) (.nil) (.nil)) (.node (o421 P) (.nil) (.nil))) (.node (o229 P) (.node (o357 P) (.nil) (.nil)) (.node (o485 P) (.nil) (.nil))))) (.node (o53 P) (.node (o85 P) (.node (o149 P) (.node (o277 P) (.node (o533 P) (.nil) (.nil)) (.nil)) (.node (o405 P) (.nil) (.nil))) (.node (o213 P) (.node (o341 P) (.nil) (.nil)) (.node (o469 P) (.nil) (.nil)))) (.node (o117 P) (.node (o181 P) (.node (o309 P) (.nil) (.nil)) (.node (o437 P) (.nil) (.nil))) (.node (o245 P) (.node (o373 P) (.nil) (.nil)) (.node (o501 P) (.nil) (.nil)))))) (.node (o29 P) (.node (o45 P) (.node (o77 P) (.node (o141 P) (.node (o269 P) (.node (o525 P) (.nil) (.nil)) (.nil)) (.node (o397 P) (.nil) (.nil))) (.node (o205 P) (.node (o333 P) (.nil) (.nil)) (.node (o461 P) (.nil) (.nil)))) (.node (o109 P) (.node (o173 P) (.node (o301 P) (.nil) (.nil)) (.node (o429 P) (.nil) (.nil))) (.node (o237 P) (.node (o365 P) (.nil) (.nil)) (.node (o493 P) (.nil) (.nil))))) (.node (o61 P) (.node (o93 P) (.node (o157 P) (.node (o285 P) (.nil) (.nil)) (.node (o413 P) (.nil) (.nil))) (.node (o221 P) (.node (o349 P) (.nil) (.nil)) (.node (o477 P) (.nil) (.nil)))) (.node (o125 P) (.node (o189 P) (.node (o317 P) (.nil) (.nil)) (.node (o445 P) (.nil) (.nil))) (.node (o253 P) (.node (o381 P) (.nil) (.nil)) (.node (o509 P) (.nil) (.nil))))))))) (.node (o2v1 P) (.node (boot_o_4 P) (.node (boot_o_8 P) (.node (o16 P) (.node (o32 P) (.node (o64 P) (.node (o128 P) (.node (o256 P) (.node (o512 P) (.nil) (.nil)) (.nil)) (.node (o384 P) (.nil) (.nil))) (.node (o192 P) (.node (o320 P) (.nil) (.nil)) (.node (o448 P) (.nil) (.nil)))) (.node (o96 P) (.node (o160 P) (.node (o288 P) (.nil) (.nil)) (.node (o416 P) (.nil) (.nil))) (.node (o224 P) (.node (o352 P) (.nil) (.nil)) (.node (o480 P) (.nil) (.nil))))) (.node (o48 P) (.node (o80 P) (.node (o144 P) (.node (o272 P) (.node (o528 P) (.nil) (.nil)) (.nil)) (.node (o400 P) (.nil) (.nil))) (.node (o208 P) (.node (o336 P) (.nil) (.nil)) (.node (o464 P) (.nil) (.nil)))) (.node (o112 P) (.node (o176 P) (.node (o304 P) (.nil) (.nil)) (.node (o432 P) (.nil) (.nil))) (.node (o240 P) (.node (o368 P) (.nil) (.nil)) (.node (o496 P) (.nil) (.nil)))))) (.node (o24 P) (.node (o40 P) (.node (o72 P) (.node (o136 P) (.node (o264 P) (.node (o520 P) (.nil) (.nil)) (.nil)) (.node (o392 P) (.nil) (.nil))) (.node (o200 P) (.node (o328 P) (.nil) (.nil)) (.node (o456 P) (.nil) (.nil)))) (.node (o104 P) (.node (o168 P) (.node (o296 P) (.nil) (.nil)) (.node (o424 P) (.nil) (.nil))) (.node (o232 P) (.node (o360 P) (.nil) (.nil)) (.node (o488 P) (.nil) (.nil))))) (.node (o56 P) (.node (o88 P) (.node (o152 P) (.node (o280 P) (.node (o536 P) (.nil) (.nil)) (.nil)) (.node (o408 P) (.nil) (.nil))) (.node (o216 P) (.node (o344 P) (.nil) (.nil)) (.node (o472 P) (.nil) (.nil)))) (.node (o120 P) (.node (o184 P) (.node (o312 P) (.nil) (.nil)) (.node (o440 P) (.nil) (.nil))) (.node (o248 P) (.node (o376 P) (.nil) (.nil)) (.node (o504 P) (.nil) (.nil))))))) (.node (o12v8 P) (.node (o20 P) (.node (o36 P) (.node (o68 P) (.node (o132 P) (.node (o260 P) (.node (o516 P) (.nil) (.nil)) (.nil)) (.node (o388 P) (.nil) (.nil))) (.node (o196 P) (.node (o324 P) (.nil) (.nil)) (.node (o452 P) (.nil) (.nil)))) (.node (o100 P) (.node (o164 P) (.node (o292 P) (.nil) (.nil)) (.node (o420 P) (.nil) (.nil))) (.node (o228 P) (.node (o356 P) (.nil) (.nil)) (.node (o484 P) (.nil) (.nil))))) (.node (o52 P) (.node (o84 P) (.node (o148 P) (.node (o276 P) (.node (o532 P) (.nil) (.nil)) (.nil)) (.node (o404 P) (.nil) (.nil))) (.node (o212 P) (.node (o340 P) (.nil) (.nil)) (.node (o468 P) (.nil) (.nil)))) (.node (o116 P) (.node (o180 P) (.node (o308 P) (.nil) (.nil)) (.node (o436 P) (.nil) (.nil))) (.node (o244 P) (.node (o372 P) (.nil) (.nil)) (.node (o500 P) (.nil) (.nil)))))) (.node (o28 P) (.node (o44 P) (.node (o76 P) (.node (o140 P) (.node (o268 P) (.node (o524 P) (.nil) (.nil)) (.nil)) (.node (o396 P) (.nil) (.nil))) (.node (o204 P) (.node (o332 P) (.nil) (.nil)) (.node (o460 P) (.nil) (.nil)))) (.node (o108 P) (.node (o172 P) (.node (o300 P) (.nil) (.nil)) (.node (o428 P) (.nil) (.nil))) (.node (o236 P) (.node (o364 P) (.nil) (.nil)) (.node (o492 P) (.nil) (.nil))))) (.node (o60 P) (.node (o92 P) (.node (o156 P) (.node (o284 P) (.nil) (.nil)) (.node (o412 P) (.nil) (.nil))) (.node (o220 P) (.node (o348 P) (.nil) (.nil)) (.node (o476 P) (.nil) (.nil)))) (.node (o124 P) (.node (o188 P) (.node (o316 P) (.nil) (.nil)) (.node (o444 P) (.nil) (.nil))) (.node (o252 P) (.node (o380 P) (.nil) (.nil)) (.node (o508 P) (.nil) (.nil)))))))) (.node (boot_o_6 P) (.node (boot_o_10 P) (.node (o18 P) (.node (o34 P) (.node (o66 P) (.node (o130 P) (.node (o258 P) (.node (o514 P) (.nil) (.nil)) (.nil)) (.node (o386 P) (.nil) (.nil))) (.node (o194 P) (.node (o322 P) (.nil) (.nil)) (.node (o450 P) (.nil) (.nil)))) (.node (o98 P) (.node (o162 P) (.node (o290 P) (.nil) (.nil)) (.node (o418 P) (.nil) (.nil))) (.node (o226 P) (.node (o354 P) (.nil) (.nil)) (.node (o482 P) (.nil) (.nil))))) (.node (o50 P) (.node (o82 P) (.node (o146 P) (.node (o274 P) (.node (o530 P) (.nil) (.nil)) (.nil)) (.node (o402 P) (.nil) (.nil))) (.node (o210 P) (.node (o338 P) (.nil) (.nil)) (.node (o466 P) (.nil) (.nil)))) (.node (o114 P) (.node (o178 P) (.node (o306 P) (.nil) (.nil)) (.node (o434 P) (.nil) (.nil))) (.node (o242 P) (.node (o370 P) (.nil) (.nil)) (.node (o498 P) (.nil) (.nil)))))) (.node (o26 P) (.node (o42 P) (.node (o74 P) (.node (o138 P) (.node (o266 P) (.node (o522 P) (.nil) (.nil)) (.nil)) (.node (o394 P) (.nil) (.nil))) (.node (o202 P) (.node (o330 P) (.nil) (.nil)) (.node (o458 P) (.nil) (.nil)))) (.node (o106 P) (.node (o170 P) (.node (o298 P) (.nil) (.nil)) (.node (o426 P) (.nil) (.nil))) (.node (o234 P) (.node (o362 P) (.nil) (.nil)) (.node (o490 P) (.nil) (.nil))))) (.node (o58 P) (.node (o90 P) (.node (o154 P) (.node (o282 P) (.nil) (.nil)) (.node (o410 P) (.nil) (.nil))) (.node (o218 P) (.node (o346 P) (.nil) (.nil)) (.node (o474 P) (.nil) (.nil)))) (.node (o122 P) (.node (o186 P) (.node (o314 P) (.nil) (.nil)) (.node (o442 P) (.nil) (.nil))) (.node (o250 P) (.node (o378 P) (.nil) (.nil)) (.node (o506 P) (.nil) (.nil))))))) (.node (o14 P) (.node (o22 P) (.node (o38 P) (.node (o70 P) (.node (o134 P) (.node (o262 P) (.node (o518 P) (.nil) (.nil)) (.nil)) (.node (o390 P) (.nil) (.nil))) (.node (o198 P) (.node (o326 P) (.nil) (.nil)) (.node (o454 P) (.nil) (.nil)))) (.node (o102 P) (.node (o166 P) (.node (o294 P) (.nil) (.nil)) (.node (o422 P) (.nil) (.nil))) (.node (o230 P) (.node (o358 P) (.nil) (.nil)) (.node (o486 P) (.nil) (.nil))))) (.node (o54 P) (.node (o86 P) (.node (o150 P) (.node (o278 P) (.node (o534 P) (.nil) (.nil)) (.nil)) (.node (o406 P) (.nil) (.nil))) (.node (o214 P) (.node (o342 P) (.nil) (.nil)) (.node (o470 P) (.nil) (.nil)))) (.node (o118 P) (.node (o182 P) (.node (o310 P) (.nil) (.nil)) (.node (o438 P) (.nil) (.nil))) (.node (o246 P) (.node (o374 P) (.nil) (.nil)) (.node (o502 P) (.nil) (.nil)))))) (.node (o30 P) (.node (o46 P) (.node (o78 P) (.node (o142 P) (.node (o270 P) (.node (o526 P) (.nil) (.nil)) (.nil)) (.node (o398 P) (.nil) (.nil))) (.node (o206 P) (.node (o334 P) (.nil) (.nil)) (.node (o462 P) (.nil) (.nil)))) (.node (o110 P) (.node (o174 P) (.node (o302 P) (.nil) (.nil)) (.node (o430 P) (.nil) (.nil))) (.node (o238 P) (.node (o366 P) (.nil) (.nil)) (.node (o494 P) (.nil) (.nil))))) (.node (o62 P) (.node (o94 P) (.node (o158 P) (.node (o286 P) (.nil) (.nil)) (.node (o414 P) (.nil) (.nil))) (.node (o222 P) (.node (o350 P) (.nil) (.nil)) (.node (o478 P) (.nil) (.nil)))) (.node (o126 P) (.node (o190 P) (.node (o318 P) (.nil) (.nil)) (.node (o446 P) (.nil) (.nil))) (.node (o254 P) (.node (o382 P) (.nil) (.nil)) (.node (o510 P) (.nil) (.nil)))))))))
noncomputable def g7 : List Stmt := [st 73, st 74, st 75, st 76, st 77]
noncomputable abbrev S8 (w : World) (os : OsState) : SharedT := ⟨t8 w.params, 537, {}, #[], {}, 923, os⟩
theorem pc7 (w : World) (os : OsState) : segRun treeTable PW w 11 an0 1 148 (S7 w os).abs (piecesOf g7 env0 cE ⟨419, 0, 425, 40⟩ fr0) = some (.next, (S8 w os).abs, cE, ⟨460, 0, 461, 89⟩) := by
  refine segRun_of ?_
  rewrite [TE_segRunT, TE_tree]
  kernel_rfl
noncomputable def o3v9 (P : Params) : Obj := ⟨.type "dict", none, .dict #[kE P "__name__" 165 (kS "gateloom.design" 915), kE P "__doc__" 166 .none, kE P "__package__" 167 .none, kE P "__loader__" 168 (.builtin "__main__.__loader__#opaque"), kE P "__spec__" 169 .none, kE P "__annotations__" 170 (.ref 6), kE P "__builtins__" 171 (.ref 4), kE P "__file__" 173 (kS "/claim/cut.py" 172), kE P "__cached__" 174 .none, kE P "_wall" 193 (.ref 21), kE P "GateloomError" 231 (.ref 39), kE P "DesignError" 247 (.ref 52), kE P "mask" 256 (.ref 61), kE P "vec" 267 (.ref 69), kE P "zeros" 274 (.ref 76), kE P "all_x" 282 (.ref 83), kE P "all_z" 289 (.ref 90), kE P "from_int" 297 (.ref 97), kE P "is_known" 304 (.ref 104), kE P "to_int" 315 (.ref 111), kE P "code" 323 (.ref 118), kE P "slice_vec" 339 (.ref 125), kE P "put_slice" 355 (.ref 132), kE P "concat" 366 (.ref 139), kE P "extend" 379 (.ref 146), kE P "z_to_x" 386 (.ref 153), kE P "truth" 393 (.ref 160), kE P "add" 403 (.ref 167), kE P "sub" 411 (.ref 174), kE P "mul" 419 (.ref 181), kE P "neg" 426 (.ref 188), kE P "quotient" 435 (.ref 195), kE P "div" 446 (.ref 202), kE P "mod" 457 (.ref 209), kE P "raise_whole" 470 (.ref 216), kE P "power" 483 (.ref 223), kE P "shift_left" 493 (.ref 230), kE P "shift_right" 502 (.ref 237), kE P "shift_arith" 517 (.ref 244), kE P "ordered" 528 (.ref 251), kE P "less" 538 (.ref 258), kE P "less_equal" 548 (.ref 265), kE P "greater" 557 (.ref 272), kE P "greater_equal" 566 (.ref 279), kE P "one_bit" 575 (.ref 286), kE P "bit_not" 585 (.ref 293), kE P "bit_and" 599 (.ref 300), kE P "bit_or" 614 (.ref 307), kE P "bit_xor" 623 (.ref 314), kE P "bit_xnor" 631 (.ref 321), kE P "reduce_and" 641 (.ref 328), kE P "reduce_nand" 648 (.ref 335), kE P "reduce_or" 655 (.ref 342), kE P "reduce_nor" 662 (.ref 349), kE P "reduce_xor" 671 (.ref 356), kE P "reduce_xnor" 678 (.ref 363), kE P "logic_not" 685 (.ref 370), kE P "logic_and" 693 (.ref 377), kE P "logic_or" 701 (.ref 384), kE P "equal" 710 (.ref 391), kE P "not_equal" 718 (.ref 398), kE P "case_equal" 726 (.ref 405), kE P "case_not_equal" 734 (.ref 412), kE P "choose" 747 (.ref 419), kE P "unary" 757 (.ref 426), kE P "arithmetic" 767 (.ref 433), kE P "comparison" 777 (.ref 440), kE P "bitwise" 786 (.ref 447), kE P "binary" 797 (.ref 454), kE P "whole_of" 806 (.ref 461), kE P "memory_word" 816 (.ref 468), kE P "picked" 826 (.ref 475), kE P "conditional" 836 (.ref 482), kE P "bits_needed" 844 (.ref 489), kE P "system_value" 855 (.ref 496), kE P "evaluate" 861 (.ref 501), kE P "locate" 870 (.ref 508), kE P "holder_width" 878 (.ref 515), kE P "resolve_target" 897 (.ref 522), kE P "store_rows" 914 (.ref 529), kE P "net_kinds" 922 (.ref 536), kE P "Signal" 1007 (.ref 588)] 82, #[]⟩
noncomputable def o12v9 (P : Params) : Obj := ⟨.none, none, .fields #[.int 1 0, .int 0 0, .ref 20, .int 5 0, .int 0 0, .ref 27, .int 11 0, .int 0 0, .ref 48, .int 14 0, .int 0 0, .ref 60, .int 16 0, .int 0 0, .ref 68, .int 19 0, .int 0 0, .ref 75, .int 21 0, .int 0 0, .ref 82, .int 24 0, .int 0 0, .ref 89, .int 26 0, .int 0 0, .ref 96, .int 28 0, .int 0 0, .ref 103, .int 30 0, .int 0 0, .ref 110, .int 37 0, .int 0 0, .ref 117, .int 39 0, .int 0 0, .ref 124, .int 50 0, .int 0 0, .ref 131, .int 61 0, .int 0 0, .ref 138, .int 70 0, .int 0 0, .ref 145, .int 80 0, .int 0 0, .ref 152, .int 82 0, .int 0 0, .ref 159, .int 89 0, .int 0 0, .ref 166, .int 93 0, .int 0 0, .ref 173, .int 97 0, .int 0 0, .ref 180, .int 101 0, .int 0 0, .ref 187, .int 105 0, .int 0 0, .ref 194, .int 110 0, .int 0 0, .ref 201, .int 116 0, .int 0 0, .ref 208, .int 122 0, .int 0 0, .ref 215, .int 133 0, .int 0 0, .ref 222, .int 148 0, .int 0 0, .ref 229, .int 156 0, .int 0 0, .ref 236, .int 163 0, .int 0 0, .ref 243, .int 173 0, .int 0 0, .ref 250, .int 181 0, .int 0 0, .ref 257, .int 186 0, .int 0 0, .ref 264, .int 191 0, .int 0 0, .ref 271, .int 193 0, .int 0 0, .ref 278, .int 196 0, .int 0 0, .ref 285, .int 198 0, .int 0 0, .ref 292, .int 201 0, .int 0 0, .ref 299, .int 206 0, .int 0 0, .ref 306, .int 212 0, .int 0 0, .ref 313, .int 215 0, .int 0 0, .ref 320, .int 217 0, .int 0 0, .ref 327, .int 222 0, .int 0 0, .ref 334, .int 224 0, .int 0 0, .ref 341, .int 226 0, .int 0 0, .ref 348, .int 228 0, .int 0 0, .ref 355, .int 237 0, .int 0 0, .ref 362, .int 239 0, .int 0 0, .ref 369, .int 241 0, .int 0 0, .ref 376, .int 243 0, .int 0 0, .ref 383, .int 245 0, .int 0 0, .ref 390, .int 250 0, .int 0 0, .ref 397, .int 252 0, .int 0 0, .ref 404, .int 254 0, .int 0 0, .ref 411, .int 256 0, .int 0 0, .ref 418, .int 267 0, .int 0 0, .ref 425, .int 287 0, .int 0 0, .ref 432, .int 305 0, .int 0 0, .ref 439, .int 323 0, .int 0 0, .ref 446, .int 337 0, .int 0 0, .ref 453, .int 346 0, .int 0 0, .ref 460, .int 348 0, .int 0 0, .ref 467, .int 356 0, .int 0 0, .ref 474, .int 362 0, .int 0 0, .ref 481, .int 370 0, .int 0 0, .ref 488, .int 375 0, .int 0 0, .ref 495, .int 388 0, .int 0 0, .ref 500, .int 419 0, .int 0 0, .ref 507, .int 426 0, .int 0 0, .ref 514, .int 430 0, .int 0 0, .ref 521, .int 449 0, .int 0 0, .ref 528, .int 460 0, .int 0 0, .ref 535, .int 462 0, .int 0 0, .ref 542], #[]⟩
noncomputable def o537 (P : Params) : Obj := ⟨.type "tuple", none, .seq #[] 0, #[]⟩
noncomputable def o538 (P : Params) : Obj := ⟨.type "builtin_function_or_method", none, .fields #[.builtin "type.__prepare__", .type "type"], #[]⟩
noncomputable def o539 (P : Params) : Obj := ⟨.type "dict", none, .dict #[kE P "__module__" 930 (kS "gateloom.design" 915), kE P "__qualname__" 932 (kS "Signal" 931), kE P "__firstlineno__" 934 (.int 462 933), kE P "__init__" 948 (.ref 550), kE P "is_net" 955 (.ref 557), kE P "is_memory" 962 (.ref 564), kE P "words" 969 (.ref 571), kE P "offset" 978 (.ref 578), kE P "place" 987 (.ref 585), kE P "__static_attributes__" 1000 (.ref 586)] 10, #[]⟩
noncomputable def o540 (P : Params) : Obj := ⟨.type "tuple", none, .seq #[] 0, #[]⟩
noncomputable def o541 (P : Params) : Obj := ⟨.none, none, .fields #[.int 464 0, .int 4 0, .ref 549, .int 478 0, .int 4 0, .ref 556, .int 481 0, .int 4 0, .ref 563, .int 484 0, .int 4 0, .ref 570, .int 489 0, .int 4 0, .ref 577, .int 498 0, .int 4 0, .ref 584], #[]⟩
noncomputable def o542 (P : Params) : Obj := ⟨.type "code", none, .fields #[kS "Signal" 925, kS "Signal" 926, kS "/claim/cut.py" 927, .int 462 0, .int 0 0, .int 0 0, .int 0 0, .int 0 0, .ref 540, .bool false, .int 181 0, .ref 541, .none, .none, .none, .none, .int 928 0, .int 462 0, kS "/claim/cut.py" 929], #[]⟩
noncomputable def o543 (P : Params) : Obj := ⟨.type "frame", none, .plain, #[(some (.ref 542)), (some (.ref 3)), (some (.ref 539)), none, (some (kS "gateloom.design" 915)), none, (some (.ref 0))]⟩
noncomputable def o544 (P : Params) : Obj := ⟨.type "tuple", none, .seq #[] 0, #[]⟩
noncomputable def o545 (P : Params) : Obj := ⟨.none, none, .fields #[], #[]⟩
noncomputable def o546 (P : Params) : Obj := ⟨.type "tuple", none, .seq #[kS "self" 938, kS "key" 939, kS "path" 940, kS "kind" 941, kS "width" 942, kS "signed" 943, kS "msb" 944, kS "lsb" 945] 0, #[]⟩
noncomputable def o547 (P : Params) : Obj := ⟨.type "tuple", none, .seq #[] 0, #[]⟩
noncomputable def o548 (P : Params) : Obj := ⟨.none, none, fD (ms 78 0) (.ofString "Signal.__init__") 0 [] .none .none .none .none none .none .none 0, #[]⟩
noncomputable def o549 (P : Params) : Obj := ⟨.type "code", none, .fields #[kS "__init__" 935, kS "Signal.__init__" 936, kS "/claim/cut.py" 937, .int 464 0, .int 8 0, .int 0 0, .int 0 0, .int 3 0, .ref 544, .bool true, .int 181 0, .ref 545, .none, .ref 546, .ref 547, .ref 548, .int 946 0, .int 464 0, kS "/claim/cut.py" 947], #[]⟩
noncomputable def o550 (P : Params) : Obj := ⟨.type "function", none, fD (ms 78 0) (.ofString "Signal.__init__") 3 [] .none .none .none (kS "gateloom.design" 915) none (.ref 549) .none 0, #[]⟩
noncomputable def o551 (P : Params) : Obj := ⟨.type "tuple", none, .seq #[] 0, #[]⟩
noncomputable def o552 (P : Params) : Obj := ⟨.none, none, .fields #[], #[]⟩
noncomputable def o553 (P : Params) : Obj := ⟨.type "tuple", none, .seq #[kS "self" 952] 0, #[]⟩
noncomputable def o554 (P : Params) : Obj := ⟨.type "tuple", none, .seq #[] 0, #[]⟩
noncomputable def o555 (P : Params) : Obj := ⟨.none, none, fD (ms 78 1) (.ofString "Signal.is_net") 0 [] .none .none .none .none none .none .none 0, #[]⟩
noncomputable def o556 (P : Params) : Obj := ⟨.type "code", none, .fields #[kS "is_net" 949, kS "Signal.is_net" 950, kS "/claim/cut.py" 951, .int 478 0, .int 1 0, .int 0 0, .int 0 0, .int 3 0, .ref 551, .bool true, .int 181 0, .ref 552, .none, .ref 553, .ref 554, .ref 555, .int 953 0, .int 478 0, kS "/claim/cut.py" 954], #[]⟩
noncomputable def o557 (P : Params) : Obj := ⟨.type "function", none, fD (ms 78 1) (.ofString "Signal.is_net") 3 [] .none .none .none (kS "gateloom.design" 915) none (.ref 556) .none 0, #[]⟩
noncomputable def o558 (P : Params) : Obj := ⟨.type "tuple", none, .seq #[] 0, #[]⟩
noncomputable def o559 (P : Params) : Obj := ⟨.none, none, .fields #[], #[]⟩
noncomputable def o560 (P : Params) : Obj := ⟨.type "tuple", none, .seq #[kS "self" 959] 0, #[]⟩
noncomputable def o561 (P : Params) : Obj := ⟨.type "tuple", none, .seq #[] 0, #[]⟩
noncomputable def o562 (P : Params) : Obj := ⟨.none, none, fD (ms 78 2) (.ofString "Signal.is_memory") 0 [] .none .none .none .none none .none .none 0, #[]⟩
noncomputable def o563 (P : Params) : Obj := ⟨.type "code", none, .fields #[kS "is_memory" 956, kS "Signal.is_memory" 957, kS "/claim/cut.py" 958, .int 481 0, .int 1 0, .int 0 0, .int 0 0, .int 3 0, .ref 558, .bool true, .int 181 0, .ref 559, .none, .ref 560, .ref 561, .ref 562, .int 960 0, .int 481 0, kS "/claim/cut.py" 961], #[]⟩
noncomputable def o564 (P : Params) : Obj := ⟨.type "function", none, fD (ms 78 2) (.ofString "Signal.is_memory") 3 [] .none .none .none (kS "gateloom.design" 915) none (.ref 563) .none 0, #[]⟩
noncomputable def o565 (P : Params) : Obj := ⟨.type "tuple", none, .seq #[] 0, #[]⟩
noncomputable def o566 (P : Params) : Obj := ⟨.none, none, .fields #[], #[]⟩
noncomputable def o567 (P : Params) : Obj := ⟨.type "tuple", none, .seq #[kS "self" 966] 0, #[]⟩
noncomputable def o568 (P : Params) : Obj := ⟨.type "tuple", none, .seq #[] 0, #[]⟩
noncomputable def o569 (P : Params) : Obj := ⟨.none, none, fD (ms 78 3) (.ofString "Signal.words") 0 [] .none .none .none .none none .none .none 0, #[]⟩
noncomputable def o570 (P : Params) : Obj := ⟨.type "code", none, .fields #[kS "words" 963, kS "Signal.words" 964, kS "/claim/cut.py" 965, .int 484 0, .int 1 0, .int 0 0, .int 0 0, .int 3 0, .ref 565, .bool true, .int 181 0, .ref 566, .none, .ref 567, .ref 568, .ref 569, .int 967 0, .int 484 0, kS "/claim/cut.py" 968], #[]⟩
noncomputable def o571 (P : Params) : Obj := ⟨.type "function", none, fD (ms 78 3) (.ofString "Signal.words") 3 [] .none .none .none (kS "gateloom.design" 915) none (.ref 570) .none 0, #[]⟩
noncomputable def o572 (P : Params) : Obj := ⟨.type "tuple", none, .seq #[] 0, #[]⟩
noncomputable def o573 (P : Params) : Obj := ⟨.none, none, .fields #[], #[]⟩
noncomputable def o574 (P : Params) : Obj := ⟨.type "tuple", none, .seq #[kS "self" 973, kS "index" 974, kS "place" 975] 0, #[]⟩
noncomputable def o575 (P : Params) : Obj := ⟨.type "tuple", none, .seq #[] 0, #[]⟩
noncomputable def o576 (P : Params) : Obj := ⟨.none, none, fD (ms 78 4) (.ofString "Signal.offset") 0 [] .none .none .none .none none .none .none 0, #[]⟩
noncomputable def o577 (P : Params) : Obj := ⟨.type "code", none, .fields #[kS "offset" 970, kS "Signal.offset" 971, kS "/claim/cut.py" 972, .int 489 0, .int 2 0, .int 0 0, .int 0 0, .int 3 0, .ref 572, .bool true, .int 181 0, .ref 573, .none, .ref 574, .ref 575, .ref 576, .int 976 0, .int 489 0, kS "/claim/cut.py" 977], #[]⟩
noncomputable def o578 (P : Params) : Obj := ⟨.type "function", none, fD (ms 78 4) (.ofString "Signal.offset") 3 [] .none .none .none (kS "gateloom.design" 915) none (.ref 577) .none 0, #[]⟩
noncomputable def o579 (P : Params) : Obj := ⟨.type "tuple", none, .seq #[] 0, #[]⟩
noncomputable def o580 (P : Params) : Obj := ⟨.none, none, .fields #[], #[]⟩
noncomputable def o581 (P : Params) : Obj := ⟨.type "tuple", none, .seq #[kS "self" 982, kS "index" 983, kS "place" 984] 0, #[]⟩
noncomputable def o582 (P : Params) : Obj := ⟨.type "tuple", none, .seq #[] 0, #[]⟩
noncomputable def o583 (P : Params) : Obj := ⟨.none, none, fD (ms 78 5) (.ofString "Signal.place") 0 [] .none .none .none .none none .none .none 0, #[]⟩
noncomputable def o584 (P : Params) : Obj := ⟨.type "code", none, .fields #[kS "place" 979, kS "Signal.place" 980, kS "/claim/cut.py" 981, .int 498 0, .int 2 0, .int 0 0, .int 0 0, .int 3 0, .ref 579, .bool true, .int 181 0, .ref 580, .none, .ref 581, .ref 582, .ref 583, .int 985 0, .int 498 0, kS "/claim/cut.py" 986], #[]⟩
noncomputable def o585 (P : Params) : Obj := ⟨.type "function", none, fD (ms 78 5) (.ofString "Signal.place") 3 [] .none .none .none (kS "gateloom.design" 915) none (.ref 584) .none 0, #[]⟩
noncomputable def o586 (P : Params) : Obj := ⟨.type "tuple", none, .seq #[kS "at" 988, kS "first" 989, kS "init" 990, kS "key" 991, kS "kind" 992, kS "last" 993, kS "lsb" 994, kS "msb" 995, kS "path" 996, kS "scalar" 997, kS "signed" 998, kS "width" 999] 0, #[]⟩
noncomputable def o587 (P : Params) : Obj := ⟨.type "dict", none, .dict #[kE P "__module__" 930 (kS "gateloom.design" 915), kE P "__firstlineno__" 934 (.int 462 933), kE P "__init__" 948 (.ref 550), kE P "is_net" 955 (.ref 557), kE P "is_memory" 962 (.ref 564), kE P "words" 969 (.ref 571), kE P "offset" 978 (.ref 578), kE P "place" 987 (.ref 585), kE P "__static_attributes__" 1000 (.ref 586), kE P "__dict__" 1002 (.ref 589), kE P "__weakref__" 1004 (.ref 590), kE P "__doc__" 1005 .none] 4, #[]⟩
noncomputable def o588 (P : Params) : Obj := ⟨.type "type", none, .cls ⟨(.ofString "Signal"), [.type "object"], [.ref 588, .type "object"], 587, (.ofString "Signal"), true, [], [], false, none, false⟩, #[none, none, (some (kS "Signal" 923)), (some (kS "Signal" 931)), (some (.builtin "object.__new__")), (some (.bool true))]⟩
noncomputable def o589 (P : Params) : Obj := ⟨.type "getset_descriptor", none, .fields #[kS "__dict__" 1001, .ref 588, .builtin "function.__dict__", .builtin "function.__dict__#set"], #[]⟩
noncomputable def o590 (P : Params) : Obj := ⟨.type "getset_descriptor", none, .fields #[kS "__weakref__" 1003, .ref 588, .builtin "ExceptionGroup.__weakref__", .none], #[]⟩
noncomputable def o591 (P : Params) : Obj := ⟨.type "super", none, .fields #[.ref 588, .ref 588, .ref 588], #[]⟩
noncomputable def o592 (P : Params) : Obj := ⟨.type "builtin_function_or_method", none, .fields #[.builtin "object.__init_subclass__", .ref 588], #[]⟩
noncomputable def t9 (P : Params) : BT := .node (boot_o_0 P) (.node (boot_o_1 P) (.node (o3v9 P) (.node (boot_o_7 P) (.node (o15 P) (.node (o31 P) (.node (o63 P) (.node (o127 P) (.node (o255 P) (.node (o511 P) (.nil) (.nil)) (.nil)) (.node (o383 P) (.nil) (.nil))) (.node (o191 P) (.node (o319 P) (.node (o575 P) (.nil) (.nil)) (.nil)) (.node (o447 P) (.nil) (.nil)))) (.node (o95 P) (.node (o159 P) (.node (o287 P) (.node (o543 P) (.nil) (.nil)) (.nil)) (.node (o415 P) (.nil) (.nil))) (.node (o223 P) (.node (o351 P) (.nil) (.nil)) (.node (o479 P) (.nil) (.nil))))) (.node (o47 P) (.node (o79 P) (.node (o143 P) (.node (o271 P) (.node (o527 P) (.nil) (.nil)) (.nil)) (.node (o399 P) (.nil) (.nil))) (.node (o207 P) (.node (o335 P) (.node (o591 P) (.nil) (.nil)) (.nil)) (.node (o463 P) (.nil) (.nil)))) (.node (o111 P) (.node (o175 P) (.node (o303 P) (.node (o559 P) (.nil) (.nil)) (.nil)) (.node (o431 P) (.nil) (.nil))) (.node (o239 P) (.node (o367 P) (.nil) (.nil)) (.node (o495 P) (.nil) (.nil)))))) (.node (o23 P) (.node (o39v1 P) (.node (o71 P) (.node (o135 P) (.node (o263 P) (.node (o519 P) (.nil) (.nil)) (.nil)) (.node (o391 P) (.nil) (.nil))) (.node (o199 P) (.node (o327 P) (.node (o583 P) (.nil) (.nil)) (.nil)) (.node (o455 P) (.nil) (.nil)))) (.node (o103 P) (.node (o167 P) (.node (o295 P) (.node (o551 P) (.nil) (.nil)) (.nil)) (.node (o423 P) (.nil) (.nil))) (.node (o231 P) (.node (o359 P) (.nil) (.nil)) (.node (o487 P) (.nil) (.nil))))) (.node (o55 P) (.node (o87 P) (.node (o151 P) (.node (o279 P) (.node (o535 P) (.nil) (.nil)) (.nil)) (.node (o407 P) (.nil) (.nil))) (.node (o215 P) (.node (o343 P) (.nil) (.nil)) (.node (o471 P) (.nil) (.nil)))) (.node (o119 P) (.node (o183 P) (.node (o311 P) (.node (o567 P) (.nil) (.nil)) (.nil)) (.node (o439 P) (.nil) (.nil))) (.node (o247 P) (.node (o375 P) (.nil) (.nil)) (.node (o503 P) (.nil) (.nil))))))) (.node (o11 P) (.node (o19 P) (.node (o35 P) (.node (o67 P) (.node (o131 P) (.node (o259 P) (.node (o515 P) (.nil) (.nil)) (.nil)) (.node (o387 P) (.nil) (.nil))) (.node (o195 P) (.node (o323 P) (.node (o579 P) (.nil) (.nil)) (.nil)) (.node (o451 P) (.nil) (.nil)))) (.node (o99 P) (.node (o163 P) (.node (o291 P) (.node (o547 P) (.nil) (.nil)) (.nil)) (.node (o419 P) (.nil) (.nil))) (.node (o227 P) (.node (o355 P) (.nil) (.nil)) (.node (o483 P) (.nil) (.nil))))) (.node (o51 P) (.node (o83 P) (.node (o147 P) (.node (o275 P) (.node (o531 P) (.nil) (.nil)) (.nil)) (.node (o403 P) (.nil) (.nil))) (.node (o211 P) (.node (o339 P) (.nil) (.nil)) (.node (o467 P) (.nil) (.nil)))) (.node (o115 P) (.node (o179 P) (.node (o307 P) (.node (o563 P) (.nil) (.nil)) (.nil)) (.node (o435 P) (.nil) (.nil))) (.node (o243 P) (.node (o371 P) (.nil) (.nil)) (.node (o499 P) (.nil) (.nil)))))) (.node (o27 P) (.node (o43 P) (.node (o75 P) (.node (o139 P) (.node (o267 P) (.node (o523 P) (.nil) (.nil)) (.nil)) (.node (o395 P) (.nil) (.nil))) (.node (o203 P) (.node (o331 P) (.node (o587 P) (.nil) (.nil)) (.nil)) (.node (o459 P) (.nil) (.nil)))) (.node (o107 P) (.node (o171 P) (.node (o299 P) (.node (o555 P) (.nil) (.nil)) (.nil)) (.node (o427 P) (.nil) (.nil))) (.node (o235 P) (.node (o363 P) (.nil) (.nil)) (.node (o491 P) (.nil) (.nil))))) (.node (o59 P) (.node (o91 P) (.node (o155 P) (.node (o283 P) (.node (o539 P) (.nil) (.nil)) (.nil)) (.node (o411 P) (.nil) (.nil))) (.node (o219 P) (.node (o347 P) (.nil) (.nil)) (.node (o475 P) (.nil) (.nil)))) (.node (o123 P) (.node (o187 P) (.node (o315 P) (.node (o571 P) (.nil) (.nil)) (.nil)) (.node (o443 P) (.nil) (.nil))) (.node (o251 P) (.node (o379 P) (.nil) (.nil)) (.node (o507 P) (.nil) (.nil)))))))) (.node (boot_o_5 P) (.node (boot_o_9 P) (.node (o17 P) (.node (o33 P) (.node (o65 P) (.node (o129 P) (.node (o257 P) (.node (o513 P) (.nil) (.nil)) (.nil)) (.node (o385 P) (.nil) (.nil))) (.node (o193 P) (.node (o321 P) (.node (o577 P) (.nil) (.nil)) (.nil)) (.node (o449 P) (.nil) (.nil)))) (.node (o97 P) (.node (o161 P) (.node (o289 P) (.node (o545 P) (.nil) (.nil)) (.nil)) (.node (o417 P) (.nil) (.nil))) (.node (o225 P) (.node (o353 P) (.nil) (.nil)) (.node (o481 P) (.nil) (.nil))))) (.node (o49 P) (.node (o81 P) (.node (o145 P) (.node (o273 P) (.node (o529 P) (.nil) (.nil)) (.nil)) (.node (o401 P) (.nil) (.nil))) (.node (o209 P) (.node (o337 P) (.nil) (.nil)) (.node (o465 P) (.nil) (.nil)))) (.node (o113 P) (.node (o177 P) (.node (o305 P) (.node (o561 P) (.nil) (.nil)) (.nil)) (.node (o433 P) (.nil) (.nil))) (.node (o241 P) (.node (o369 P) (.nil) (.nil)) (.node (o497 P) (.nil) (.nil)))))) (.node (o25 P) (.node (o41 P) (.node (o73 P) (.node (o137 P) (.node (o265 P) (.node (o521 P) (.nil) (.nil)) (.nil)) (.node (o393 P) (.nil) (.nil))) (.node (o201 P) (.node (o329 P) (.node (o585 P) (.nil) (.nil)) (.nil)) (.node (o457 P) (.nil) (.nil)))) (.node (o105 P) (.node (o169 P) (.node (o297 P) (.node (o553 P) (.nil) (.nil)) (.nil)) (.node (o425 P) (.nil) (.nil))) (.node (o233 P) (.node (o361 P) (.nil) (.nil)) (.node (o489 P) (.nil) (.nil))))) (.node (o57 P) (.node (o89 P) (.node (o153 P) (.node (o281 P) (.node (o537 P) (.nil) (.nil)) (.nil)) (.node (o409 P) (.nil) (.nil))) (.node (o217 P) (.node (o345 P) (.nil) (.nil)) (.node (o473 P) (.nil) (.nil)))) (.node (o121 P) (.node (o185 P) (.node (o313 P) (.node (o569 P) (.nil) (.nil)) (.nil)) (.node (o441 P) (.nil) (.nil))) (.node (o249 P) (.node (o377 P) (.nil) (.nil)) (.node (o505 P) (.nil) (.nil))))))) (.node (o13 P) (.node (o21 P) (.node (o37 P) (.node (o69 P) (.node (o133 P) (.node (o261 P) (.node (o517 P) (.nil) (.nil)) (.nil)) (.node (o389 P) (.nil) (.nil))) (.node (o197 P) (.node (o325 P) (.node (o581 P) (.nil) (.nil)) (.nil)) (.node (o453 P) (.nil) (.nil)))) (.node (o101 P) (.node (o165 P) (.node (o293 P) (.node (o549 P) (.nil) (.nil)) (.nil)) (.node (o421 P) (.nil) (.nil))) (.node (o229 P) (.node (o357 P) (.nil) (.nil)) (.node (o485 P) (.nil) (.nil))))) (.node (o53 P) (.node (o85 P) (.node (o149 P) (.node (o277 P) (.node (o533 P) (.nil) (.nil)) (.nil)) (.node (o405 P) (.nil) (.nil))) (.node (o213 P) (.node (o341 P) (.nil) (.nil)) (.node (o469 P) (.nil) (.nil)))) (.node (o117 P) (.node (o181 P) (.node (o309 P) (.node (o565 P) (.nil) (.nil)) (.nil)) (.node (o437 P) (.nil) (.nil))) (.node (o245 P) (.node (o373 P) (.nil) (.nil)) (.node (o501 P) (.nil) (.nil)))))) (.node (o29 P) (.node (o45 P) (.node (o77 P) (.node (o141 P) (.node (o269 P) (.node (o525 P) (.nil) (.nil)) (.nil)) (.node (o397 P) (.nil) (.nil))) (.node (o205 P) (.node (o333 P) (.node (o589 P) (.nil) (.nil)) (.nil)) (.node (o461 P) (.nil) (.nil)))) (.node (o109 P) (.node (o173 P) (.node (o301 P) (.node (o557 P) (.nil) (.nil)) (.nil)) (.node (o429 P) (.nil) (.nil))) (.node (o237 P) (.node (o365 P) (.nil) (.nil)) (.node (o493 P) (.nil) (.nil))))) (.node (o61 P) (.node (o93 P) (.node (o157 P) (.node (o285 P) (.node (o541 P) (.nil) (.nil)) (.nil)) (.node (o413 P) (.nil) (.nil))) (.node (o221 P) (.node (o349 P) (.nil) (.nil)) (.node (o477 P) (.nil) (.nil)))) (.node (o125 P) (.node (o189 P) (.node (o317 P) (.node (o573 P) (.nil) (.nil)) (.nil)) (.node (o445 P) (.nil) (.nil))) (.node (o253 P) (.node (o381 P) (.nil) (.nil)) (.node (o509 P) (.nil) (.nil))))))))) (.node (o2v1 P) (.node (boot_o_4 P) (.node (boot_o_8 P) (.node (o16 P) (.node (o32 P) (.node (o64 P) (.node (o128 P) (.node (o256 P) (.node (o512 P) (.nil) (.nil)) (.nil)) (.node (o384 P) (.nil) (.nil))) (.node (o192 P) (.node (o320 P) (.node (o576 P) (.nil) (.nil)) (.nil)) (.node (o448 P) (.nil) (.nil)))) (.node (o96 P) (.node (o160 P) (.node (o288 P) (.node (o544 P) (.nil) (.nil)) (.nil)) (.node (o416 P) (.nil) (.nil))) (.node (o224 P) (.node (o352 P) (.nil) (.nil)) (.node (o480 P) (.nil) (.nil))))) (.node (o48 P) (.node (o80 P) (.node (o144 P) (.node (o272 P) (.node (o528 P) (.nil) (.nil)) (.nil)) (.node (o400 P) (.nil) (.nil))) (.node (o208 P) (.node (o336 P) (.node (o592 P) (.nil) (.nil)) (.nil)) (.node (o464 P) (.nil) (.nil)))) (.node (o112 P) (.node (o176 P) (.node (o304 P) (.node (o560 P) (.nil) (.nil)) (.nil)) (.node (o432 P) (.nil) (.nil))) (.node (o240 P) (.node (o368 P) (.nil) (.nil)) (.node (o496 P) (.nil) (.nil)))))) (.node (o24 P) (.node (o40 P) (.node (o72 P) (.node (o136 P) (.node (o264 P) (.node (o520 P) (.nil) (.nil)) (.nil)) (.node (o392 P) (.nil) (.nil))) (.node (o200 P) (.node (o328 P) (.node (o584 P) (.nil) (.nil)) (.nil)) (.node (o456 P) (.nil) (.nil)))) (.node (o104 P) (.node (o168 P) (.node (o296 P) (.node (o552 P) (.nil) (.nil)) (.nil)) (.node (o424 P) (.nil) (.nil))) (.node (o232 P) (.node (o360 P) (.nil) (.nil)) (.node (o488 P) (.nil) (.nil))))) (.node (o56 P) (.node (o88 P) (.node (o152 P) (.node (o280 P) (.node (o536 P) (.nil) (.nil)) (.nil)) (.node (o408 P) (.nil) (.nil))) (.node (o216 P) (.node (o344 P) (.nil) (.nil)) (.node (o472 P) (.nil) (.nil)))) (.node (o120 P) (.node (o184 P) (.node (o312 P) (.node (o568 P) (.nil) (.nil)) (.nil)) (.node (o440 P) (.nil) (.nil))) (.node (o248 P) (.node (o376 P) (.nil) (.nil)) (.node (o504 P) (.nil) (.nil))))))) (.node (o12v9 P) (.node (o20 P) (.node (o36 P) (.node (o68 P) (.node (o132 P) (.node (o260 P) (.node (o516 P) (.nil) (.nil)) (.nil)) (.node (o388 P) (.nil) (.nil))) (.node (o196 P) (.node (o324 P) (.node (o580 P) (.nil) (.nil)) (.nil)) (.node (o452 P) (.nil) (.nil)))) (.node (o100 P) (.node (o164 P) (.node (o292 P) (.node (o548 P) (.nil) (.nil)) (.nil)) (.node (o420 P) (.nil) (.nil))) (.node (o228 P) (.node (o356 P) (.nil) (.nil)) (.node (o484 P) (.nil) (.nil))))) (.node (o52 P) (.node (o84 P) (.node (o148 P) (.node (o276 P) (.node (o532 P) (.nil) (.nil)) (.nil)) (.node (o404 P) (.nil) (.nil))) (.node (o212 P) (.node (o340 P) (.nil) (.nil)) (.node (o468 P) (.nil) (.nil)))) (.node (o116 P) (.node (o180 P) (.node (o308 P) (.node (o564 P) (.nil) (.nil)) (.nil)) (.node (o436 P) (.nil) (.nil))) (.node (o244 P) (.node (o372 P) (.nil) (.nil)) (.node (o500 P) (.nil) (.nil)))))) (.node (o28 P) (.node (o44 P) (.node (o76 P) (.node (o140 P) (.node (o268 P) (.node (o524 P) (.nil) (.nil)) (.nil)) (.node (o396 P) (.nil) (.nil))) (.node (o204 P) (.node (o332 P) (.node (o588 P) (.nil) (.nil)) (.nil)) (.node (o460 P) (.nil) (.nil)))) (.node (o108 P) (.node (o172 P) (.node (o300 P) (.node (o556 P) (.nil) (.nil)) (.nil)) (.node (o428 P) (.nil) (.nil))) (.node (o236 P) (.node (o364 P) (.nil) (.nil)) (.node (o492 P) (.nil) (.nil))))) (.node (o60 P) (.node (o92 P) (.node (o156 P) (.node (o284 P) (.node (o540 P) (.nil) (.nil)) (.nil)) (.node (o412 P) (.nil) (.nil))) (.node (o220 P) (.node (o348 P) (.nil) (.nil)) (.node (o476 P) (.nil) (.nil)))) (.node (o124 P) (.node (o188 P) (.node (o316 P) (.node (o572 P) (.nil) (.nil)) (.nil)) (.node (o444 P) (.nil) (.nil))) (.node (o252 P) (.node (o380 P) (.nil) (.nil)) (.node (o508 P) (.nil) (.nil)))))))) (.node (boot_o_6 P) (.node (boot_o_10 P) (.node (o18 P) (.node (o34 P) (.node (o66 P) (.node (o130 P) (.node (o258 P) (.node (o514 P) (.nil) (.nil)) (.nil)) (.node (o386 P) (.nil) (.nil))) (.node (o194 P) (.node (o322 P) (.node (o578 P) (.nil) (.nil)) (.nil)) (.node (o450 P) (.nil) (.nil)))) (.node (o98 P) (.node (o162 P) (.node (o290 P) (.node (o546 P) (.nil) (.nil)) (.nil)) (.node (o418 P) (.nil) (.nil))) (.node (o226 P) (.node (o354 P) (.nil) (.nil)) (.node (o482 P) (.nil) (.nil))))) (.node (o50 P) (.node (o82 P) (.node (o146 P) (.node (o274 P) (.node (o530 P) (.nil) (.nil)) (.nil)) (.node (o402 P) (.nil) (.nil))) (.node (o210 P) (.node (o338 P) (.nil) (.nil)) (.node (o466 P) (.nil) (.nil)))) (.node (o114 P) (.node (o178 P) (.node (o306 P) (.node (o562 P) (.nil) (.nil)) (.nil)) (.node (o434 P) (.nil) (.nil))) (.node (o242 P) (.node (o370 P) (.nil) (.nil)) (.node (o498 P) (.nil) (.nil)))))) (.node (o26 P) (.node (o42 P) (.node (o74 P) (.node (o138 P) (.node (o266 P) (.node (o522 P) (.nil) (.nil)) (.nil)) (.node (o394 P) (.nil) (.nil))) (.node (o202 P) (.node (o330 P) (.node (o586 P) (.nil) (.nil)) (.nil)) (.node (o458 P) (.nil) (.nil)))) (.node (o106 P) (.node (o170 P) (.node (o298 P) (.node (o554 P) (.nil) (.nil)) (.nil)) (.node (o426 P) (.nil) (.nil))) (.node (o234 P) (.node (o362 P) (.nil) (.nil)) (.node (o490 P) (.nil) (.nil))))) (.node (o58 P) (.node (o90 P) (.node (o154 P) (.node (o282 P) (.node (o538 P) (.nil) (.nil)) (.nil)) (.node (o410 P) (.nil) (.nil))) (.node (o218 P) (.node (o346 P) (.nil) (.nil)) (.node (o474 P) (.nil) (.nil)))) (.node (o122 P) (.node (o186 P) (.node (o314 P) (.node (o570 P) (.nil) (.nil)) (.nil)) (.node (o442 P) (.nil) (.nil))) (.node (o250 P) (.node (o378 P) (.nil) (.nil)) (.node (o506 P) (.nil) (.nil))))))) (.node (o14 P) (.node (o22 P) (.node (o38 P) (.node (o70 P) (.node (o134 P) (.node (o262 P) (.node (o518 P) (.nil) (.nil)) (.nil)) (.node (o390 P) (.nil) (.nil))) (.node (o198 P) (.node (o326 P) (.node (o582 P) (.nil) (.nil)) (.nil)) (.node (o454 P) (.nil) (.nil)))) (.node (o102 P) (.node (o166 P) (.node (o294 P) (.node (o550 P) (.nil) (.nil)) (.nil)) (.node (o422 P) (.nil) (.nil))) (.node (o230 P) (.node (o358 P) (.nil) (.nil)) (.node (o486 P) (.nil) (.nil))))) (.node (o54 P) (.node (o86 P) (.node (o150 P) (.node (o278 P) (.node (o534 P) (.nil) (.nil)) (.nil)) (.node (o406 P) (.nil) (.nil))) (.node (o214 P) (.node (o342 P) (.nil) (.nil)) (.node (o470 P) (.nil) (.nil)))) (.node (o118 P) (.node (o182 P) (.node (o310 P) (.node (o566 P) (.nil) (.nil)) (.nil)) (.node (o438 P) (.nil) (.nil))) (.node (o246 P) (.node (o374 P) (.nil) (.nil)) (.node (o502 P) (.nil) (.nil)))))) (.node (o30 P) (.node (o46 P) (.node (o78 P) (.node (o142 P) (.node (o270 P) (.node (o526 P) (.nil) (.nil)) (.nil)) (.node (o398 P) (.nil) (.nil))) (.node (o206 P) (.node (o334 P) (.node (o590 P) (.nil) (.nil)) (.nil)) (.node (o462 P) (.nil) (.nil)))) (.node (o110 P) (.node (o174 P) (.node (o302 P) (.node (o558 P) (.nil) (.nil)) (.nil)) (.node (o430 P) (.nil) (.nil))) (.node (o238 P) (.node (o366 P) (.nil) (.nil)) (.node (o494 P) (.nil) (.nil))))) (.node (o62 P) (.node (o94 P) (.node (o158 P) (.node (o286 P) (.node (o542 P) (.nil) (.nil)) (.nil)) (.node (o414 P) (.nil) (.nil))) (.node (o222 P) (.node (o350 P) (.nil) (.nil)) (.node (o478 P) (.nil) (.nil)))) (.node (o126 P) (.node (o190 P) (.node (o318 P) (.node (o574 P) (.nil) (.nil)) (.nil)) (.node (o446 P) (.nil) (.nil))) (.node (o254 P) (.node (o382 P) (.nil) (.nil)) (.node (o510 P) (.nil) (.nil)))))))))
noncomputable def g8 : List Stmt := [st 78]
noncomputable abbrev S9 (w : World) (os : OsState) : SharedT := ⟨t9 w.params, 593, {}, #[], {}, 1008, os⟩
theorem pc8 (w : World) (os : OsState) : segRun treeTable PW w 11 an0 1 399 (S8 w os).abs (piecesOf g8 env0 cE ⟨460, 0, 461, 89⟩ fr0) = some (.next, (S9 w os).abs, cE, ⟨462, 0, 507, 20⟩) := by
  refine segRun_of ?_
  rewrite [TE_segRunT, TE_tree]
  kernel_rfl
noncomputable def o3v10 (P : Params) : Obj := ⟨.type "dict", none, .dict #[kE P "__name__" 165 (kS "gateloom.design" 915), kE P "__doc__" 166 .none, kE P "__package__" 167 .none, kE P "__loader__" 168 (.builtin "__main__.__loader__#opaque"), kE P "__spec__" 169 .none, kE P "__annotations__" 170 (.ref 6), kE P "__builtins__" 171 (.ref 4), kE P "__file__" 173 (kS "/claim/cut.py" 172), kE P "__cached__" 174 .none, kE P "_wall" 193 (.ref 21), kE P "GateloomError" 231 (.ref 39), kE P "DesignError" 247 (.ref 52), kE P "mask" 256 (.ref 61), kE P "vec" 267 (.ref 69), kE P "zeros" 274 (.ref 76), kE P "all_x" 282 (.ref 83), kE P "all_z" 289 (.ref 90), kE P "from_int" 297 (.ref 97), kE P "is_known" 304 (.ref 104), kE P "to_int" 315 (.ref 111), kE P "code" 323 (.ref 118), kE P "slice_vec" 339 (.ref 125), kE P "put_slice" 355 (.ref 132), kE P "concat" 366 (.ref 139), kE P "extend" 379 (.ref 146), kE P "z_to_x" 386 (.ref 153), kE P "truth" 393 (.ref 160), kE P "add" 403 (.ref 167), kE P "sub" 411 (.ref 174), kE P "mul" 419 (.ref 181), kE P "neg" 426 (.ref 188), kE P "quotient" 435 (.ref 195), kE P "div" 446 (.ref 202), kE P "mod" 457 (.ref 209), kE P "raise_whole" 470 (.ref 216), kE P "power" 483 (.ref 223), kE P "shift_left" 493 (.ref 230), kE P "shift_right" 502 (.ref 237), kE P "shift_arith" 517 (.ref 244), kE P "ordered" 528 (.ref 251), kE P "less" 538 (.ref 258), kE P "less_equal" 548 (.ref 265), kE P "greater" 557 (.ref 272), kE P "greater_equal" 566 (.ref 279), kE P "one_bit" 575 (.ref 286), kE P "bit_not" 585 (.ref 293), kE P "bit_and" 599 (.ref 300), kE P "bit_or" 614 (.ref 307), kE P "bit_xor" 623 (.ref 314), kE P "bit_xnor" 631 (.ref 321), kE P "reduce_and" 641 (.ref 328), kE P "reduce_nand" 648 (.ref 335), kE P "reduce_or" 655 (.ref 342), kE P "reduce_nor" 662 (.ref 349), kE P "reduce_xor" 671 (.ref 356), kE P "reduce_xnor" 678 (.ref 363), kE P "logic_not" 685 (.ref 370), kE P "logic_and" 693 (.ref 377), kE P "logic_or" 701 (.ref 384), kE P "equal" 710 (.ref 391), kE P "not_equal" 718 (.ref 398), kE P "case_equal" 726 (.ref 405), kE P "case_not_equal" 734 (.ref 412), kE P "choose" 747 (.ref 419), kE P "unary" 757 (.ref 426), kE P "arithmetic" 767 (.ref 433), kE P "comparison" 777 (.ref 440), kE P "bitwise" 786 (.ref 447), kE P "binary" 797 (.ref 454), kE P "whole_of" 806 (.ref 461), kE P "memory_word" 816 (.ref 468), kE P "picked" 826 (.ref 475), kE P "conditional" 836 (.ref 482), kE P "bits_needed" 844 (.ref 489), kE P "system_value" 855 (.ref 496), kE P "evaluate" 861 (.ref 501), kE P "locate" 870 (.ref 508), kE P "holder_width" 878 (.ref 515), kE P "resolve_target" 897 (.ref 522), kE P "store_rows" 914 (.ref 529), kE P "net_kinds" 922 (.ref 536), kE P "Signal" 1007 (.ref 588), kE P "Design" 1106 (.ref 651)] 83, #[]⟩
noncomputable def o12v10 (P : Params) : Obj := ⟨.none, none, .fields #[.int 1 0, .int 0 0, .ref 20, .int 5 0, .int 0 0, .ref 27, .int 11 0, .int 0 0, .ref 48, .int 14 0, .int 0 0, .ref 60, .int 16 0, .int 0 0, .ref 68, .int 19 0, .int 0 0, .ref 75, .int 21 0, .int 0 0, .ref 82, .int 24 0, .int 0 0, .ref 89, .int 26 0, .int 0 0, .ref 96, .int 28 0, .int 0 0, .ref 103, .int 30 0, .int 0 0, .ref 110, .int 37 0, .int 0 0, .ref 117, .int 39 0, .int 0 0, .ref 124, .int 50 0, .int 0 0, .ref 131, .int 61 0, .int 0 0, .ref 138, .int 70 0, .int 0 0, .ref 145, .int 80 0, .int 0 0, .ref 152, .int 82 0, .int 0 0, .ref 159, .int 89 0, .int 0 0, .ref 166, .int 93 0, .int 0 0, .ref 173, .int 97 0, .int 0 0, .ref 180, .int 101 0, .int 0 0, .ref 187, .int 105 0, .int 0 0, .ref 194, .int 110 0, .int 0 0, .ref 201, .int 116 0, .int 0 0, .ref 208, .int 122 0, .int 0 0, .ref 215, .int 133 0, .int 0 0, .ref 222, .int 148 0, .int 0 0, .ref 229, .int 156 0, .int 0 0, .ref 236, .int 163 0, .int 0 0, .ref 243, .int 173 0, .int 0 0, .ref 250, .int 181 0, .int 0 0, .ref 257, .int 186 0, .int 0 0, .ref 264, .int 191 0, .int 0 0, .ref 271, .int 193 0, .int 0 0, .ref 278, .int 196 0, .int 0 0, .ref 285, .int 198 0, .int 0 0, .ref 292, .int 201 0, .int 0 0, .ref 299, .int 206 0, .int 0 0, .ref 306, .int 212 0, .int 0 0, .ref 313, .int 215 0, .int 0 0, .ref 320, .int 217 0, .int 0 0, .ref 327, .int 222 0, .int 0 0, .ref 334, .int 224 0, .int 0 0, .ref 341, .int 226 0, .int 0 0, .ref 348, .int 228 0, .int 0 0, .ref 355, .int 237 0, .int 0 0, .ref 362, .int 239 0, .int 0 0, .ref 369, .int 241 0, .int 0 0, .ref 376, .int 243 0, .int 0 0, .ref 383, .int 245 0, .int 0 0, .ref 390, .int 250 0, .int 0 0, .ref 397, .int 252 0, .int 0 0, .ref 404, .int 254 0, .int 0 0, .ref 411, .int 256 0, .int 0 0, .ref 418, .int 267 0, .int 0 0, .ref 425, .int 287 0, .int 0 0, .ref 432, .int 305 0, .int 0 0, .ref 439, .int 323 0, .int 0 0, .ref 446, .int 337 0, .int 0 0, .ref 453, .int 346 0, .int 0 0, .ref 460, .int 348 0, .int 0 0, .ref 467, .int 356 0, .int 0 0, .ref 474, .int 362 0, .int 0 0, .ref 481, .int 370 0, .int 0 0, .ref 488, .int 375 0, .int 0 0, .ref 495, .int 388 0, .int 0 0, .ref 500, .int 419 0, .int 0 0, .ref 507, .int 426 0, .int 0 0, .ref 514, .int 430 0, .int 0 0, .ref 521, .int 449 0, .int 0 0, .ref 528, .int 460 0, .int 0 0, .ref 535, .int 462 0, .int 0 0, .ref 542, .int 508 0, .int 0 0, .ref 598], #[]⟩
noncomputable def o593 (P : Params) : Obj := ⟨.type "tuple", none, .seq #[] 0, #[]⟩
noncomputable def o594 (P : Params) : Obj := ⟨.type "builtin_function_or_method", none, .fields #[.builtin "type.__prepare__", .type "type"], #[]⟩
noncomputable def o595 (P : Params) : Obj := ⟨.type "dict", none, .dict #[kE P "__module__" 1015 (kS "gateloom.design" 915), kE P "__qualname__" 1017 (kS "Design" 1016), kE P "__firstlineno__" 1019 (.int 508 1018), kE P "__init__" 1026 (.ref 606), kE P "add_signal" 1041 (.ref 613), kE P "add_scope" 1049 (.ref 620), kE P "add_routine" 1060 (.ref 627), kE P "add_process" 1071 (.ref 634), kE P "find" 1079 (.ref 641), kE P "routine" 1087 (.ref 648), kE P "__static_attributes__" 1099 (.ref 649)] 11, #[]⟩
noncomputable def o596 (P : Params) : Obj := ⟨.type "tuple", none, .seq #[] 0, #[]⟩
noncomputable def o597 (P : Params) : Obj := ⟨.none, none, .fields #[.int 510 0, .int 4 0, .ref 605, .int 523 0, .int 4 0, .ref 612, .int 530 0, .int 4 0, .ref 619, .int 533 0, .int 4 0, .ref 626, .int 536 0, .int 4 0, .ref 633, .int 539 0, .int 4 0, .ref 640, .int 542 0, .int 4 0, .ref 647], #[]⟩
noncomputable def o598 (P : Params) : Obj := ⟨.type "code", none, .fields #[kS "Design" 1010, kS "Design" 1011, kS "/claim/cut.py" 1012, .int 508 0, .int 0 0, .int 0 0, .int 0 0, .int 0 0, .ref 596, .bool false, .int 181 0, .ref 597, .none, .none, .none, .none, .int 1013 0, .int 508 0, kS "/claim/cut.py" 1014], #[]⟩
noncomputable def o599 (P : Params) : Obj := ⟨.type "frame", none, .plain, #[(some (.ref 598)), (some (.ref 3)), (some (.ref 595)), none, (some (kS "gateloom.design" 915)), none, (some (.ref 0))]⟩
noncomputable def o600 (P : Params) : Obj := ⟨.type "tuple", none, .seq #[] 0, #[]⟩
noncomputable def o601 (P : Params) : Obj := ⟨.none, none, .fields #[], #[]⟩
noncomputable def o602 (P : Params) : Obj := ⟨.type "tuple", none, .seq #[kS "self" 1023] 0, #[]⟩
noncomputable def o603 (P : Params) : Obj := ⟨.type "tuple", none, .seq #[] 0, #[]⟩
noncomputable def o604 (P : Params) : Obj := ⟨.none, none, fD (ms 79 0) (.ofString "Design.__init__") 0 [] .none .none .none .none none .none .none 0, #[]⟩
noncomputable def o605 (P : Params) : Obj := ⟨.type "code", none, .fields #[kS "__init__" 1020, kS "Design.__init__" 1021, kS "/claim/cut.py" 1022, .int 510 0, .int 1 0, .int 0 0, .int 0 0, .int 3 0, .ref 600, .bool true, .int 181 0, .ref 601, .none, .ref 602, .ref 603, .ref 604, .int 1024 0, .int 510 0, kS "/claim/cut.py" 1025], #[]⟩
noncomputable def o606 (P : Params) : Obj := ⟨.type "function", none, fD (ms 79 0) (.ofString "Design.__init__") 3 [] .none .none .none (kS "gateloom.design" 915) none (.ref 605) .none 0, #[]⟩
noncomputable def o607 (P : Params) : Obj := ⟨.type "tuple", none, .seq #[] 0, #[]⟩
noncomputable def o608 (P : Params) : Obj := ⟨.none, none, .fields #[], #[]⟩
noncomputable def o609 (P : Params) : Obj := ⟨.type "tuple", none, .seq #[kS "self" 1030, kS "path" 1031, kS "kind" 1032, kS "width" 1033, kS "signed" 1034, kS "msb" 1035, kS "lsb" 1036, kS "at" 1037, kS "signal" 1038] 0, #[]⟩
noncomputable def o610 (P : Params) : Obj := ⟨.type "tuple", none, .seq #[] 0, #[]⟩
noncomputable def o611 (P : Params) : Obj := ⟨.none, none, fD (ms 79 1) (.ofString "Design.add_signal") 0 [] .none .none .none .none none .none .none 0, #[]⟩
noncomputable def o612 (P : Params) : Obj := ⟨.type "code", none, .fields #[kS "add_signal" 1027, kS "Design.add_signal" 1028, kS "/claim/cut.py" 1029, .int 523 0, .int 8 0, .int 0 0, .int 0 0, .int 3 0, .ref 607, .bool true, .int 181 0, .ref 608, .none, .ref 609, .ref 610, .ref 611, .int 1039 0, .int 523 0, kS "/claim/cut.py" 1040], #[]⟩
noncomputable def o613 (P : Params) : Obj := ⟨.type "function", none, fD (ms 79 1) (.ofString "Design.add_signal") 3 [] .none .none .none (kS "gateloom.design" 915) none (.ref 612) .none 0, #[]⟩
noncomputable def o614 (P : Params) : Obj := ⟨.type "tuple", none, .seq #[] 0, #[]⟩
noncomputable def o615 (P : Params) : Obj := ⟨.none, none, .fields #[], #[]⟩
noncomputable def o616 (P : Params) : Obj := ⟨.type "tuple", none, .seq #[kS "self" 1045, kS "path" 1046] 0, #[]⟩
noncomputable def o617 (P : Params) : Obj := ⟨.type "tuple", none, .seq #[] 0, #[]⟩
noncomputable def o618 (P : Params) : Obj := ⟨.none, none, fD (ms 79 2) (.ofString "Design.add_scope") 0 [] .none .none .none .none none .none .none 0, #[]⟩
noncomputable def o619 (P : Params) : Obj := ⟨.type "code", none, .fields #[kS "add_scope" 1042, kS "Design.add_scope" 1043, kS "/claim/cut.py" 1044, .int 530 0, .int 2 0, .int 0 0, .int 0 0, .int 3 0, .ref 614, .bool true, .int 181 0, .ref 615, .none, .ref 616, .ref 617, .ref 618, .int 1047 0, .int 530 0, kS "/claim/cut.py" 1048], #[]⟩
noncomputable def o620 (P : Params) : Obj := ⟨.type "function", none, fD (ms 79 2) (.ofString "Design.add_scope") 3 [] .none .none .none (kS "gateloom.design" 915) none (.ref 619) .none 0, #[]⟩
noncomputable def o621 (P : Params) : Obj := ⟨.type "tuple", none, .seq #[] 0, #[]⟩
noncomputable def o622 (P : Params) : Obj := ⟨.none, none, .fields #[], #[]⟩
noncomputable def o623 (P : Params) : Obj := ⟨.type "tuple", none, .seq #[kS "self" 1053, kS "path" 1054, kS "is_function" 1055, kS "automatic" 1056, kS "at" 1057] 0, #[]⟩
noncomputable def o624 (P : Params) : Obj := ⟨.type "tuple", none, .seq #[] 0, #[]⟩
noncomputable def o625 (P : Params) : Obj := ⟨.none, none, fD (ms 79 3) (.ofString "Design.add_routine") 0 [] .none .none .none .none none .none .none 0, #[]⟩
noncomputable def o626 (P : Params) : Obj := ⟨.type "code", none, .fields #[kS "add_routine" 1050, kS "Design.add_routine" 1051, kS "/claim/cut.py" 1052, .int 533 0, .int 5 0, .int 0 0, .int 0 0, .int 3 0, .ref 621, .bool true, .int 181 0, .ref 622, .none, .ref 623, .ref 624, .ref 625, .int 1058 0, .int 533 0, kS "/claim/cut.py" 1059], #[]⟩
noncomputable def o627 (P : Params) : Obj := ⟨.type "function", none, fD (ms 79 3) (.ofString "Design.add_routine") 3 [] .none .none .none (kS "gateloom.design" 915) none (.ref 626) .none 0, #[]⟩
noncomputable def o628 (P : Params) : Obj := ⟨.type "tuple", none, .seq #[] 0, #[]⟩
noncomputable def o629 (P : Params) : Obj := ⟨.none, none, .fields #[], #[]⟩
noncomputable def o630 (P : Params) : Obj := ⟨.type "tuple", none, .seq #[kS "self" 1064, kS "kind" 1065, kS "body" 1066, kS "path" 1067, kS "at" 1068] 0, #[]⟩
noncomputable def o631 (P : Params) : Obj := ⟨.type "tuple", none, .seq #[] 0, #[]⟩
noncomputable def o632 (P : Params) : Obj := ⟨.none, none, fD (ms 79 4) (.ofString "Design.add_process") 0 [] .none .none .none .none none .none .none 0, #[]⟩
noncomputable def o633 (P : Params) : Obj := ⟨.type "code", none, .fields #[kS "add_process" 1061, kS "Design.add_process" 1062, kS "/claim/cut.py" 1063, .int 536 0, .int 5 0, .int 0 0, .int 0 0, .int 3 0, .ref 628, .bool true, .int 181 0, .ref 629, .none, .ref 630, .ref 631, .ref 632, .int 1069 0, .int 536 0, kS "/claim/cut.py" 1070], #[]⟩
noncomputable def o634 (P : Params) : Obj := ⟨.type "function", none, fD (ms 79 4) (.ofString "Design.add_process") 3 [] .none .none .none (kS "gateloom.design" 915) none (.ref 633) .none 0, #[]⟩
noncomputable def o635 (P : Params) : Obj := ⟨.type "tuple", none, .seq #[] 0, #[]⟩
noncomputable def o636 (P : Params) : Obj := ⟨.none, none, .fields #[], #[]⟩
noncomputable def o637 (P : Params) : Obj := ⟨.type "tuple", none, .seq #[kS "self" 1075, kS "path" 1076] 0, #[]⟩
noncomputable def o638 (P : Params) : Obj := ⟨.type "tuple", none, .seq #[] 0, #[]⟩
noncomputable def o639 (P : Params) : Obj := ⟨.none, none, fD (ms 79 5) (.ofString "Design.find") 0 [] .none .none .none .none none .none .none 0, #[]⟩
noncomputable def o640 (P : Params) : Obj := ⟨.type "code", none, .fields #[kS "find" 1072, kS "Design.find" 1073, kS "/claim/cut.py" 1074, .int 539 0, .int 2 0, .int 0 0, .int 0 0, .int 3 0, .ref 635, .bool true, .int 181 0, .ref 636, .none, .ref 637, .ref 638, .ref 639, .int 1077 0, .int 539 0, kS "/claim/cut.py" 1078], #[]⟩
noncomputable def o641 (P : Params) : Obj := ⟨.type "function", none, fD (ms 79 5) (.ofString "Design.find") 3 [] .none .none .none (kS "gateloom.design" 915) none (.ref 640) .none 0, #[]⟩
noncomputable def o642 (P : Params) : Obj := ⟨.type "tuple", none, .seq #[] 0, #[]⟩
noncomputable def o643 (P : Params) : Obj := ⟨.none, none, .fields #[], #[]⟩
noncomputable def o644 (P : Params) : Obj := ⟨.type "tuple", none, .seq #[kS "self" 1083, kS "n" 1084] 0, #[]⟩
noncomputable def o645 (P : Params) : Obj := ⟨.type "tuple", none, .seq #[] 0, #[]⟩
noncomputable def o646 (P : Params) : Obj := ⟨.none, none, fD (ms 79 6) (.ofString "Design.routine") 0 [] .none .none .none .none none .none .none 0, #[]⟩
noncomputable def o647 (P : Params) : Obj := ⟨.type "code", none, .fields #[kS "routine" 1080, kS "Design.routine" 1081, kS "/claim/cut.py" 1082, .int 542 0, .int 2 0, .int 0 0, .int 0 0, .int 3 0, .ref 642, .bool true, .int 181 0, .ref 643, .none, .ref 644, .ref 645, .ref 646, .int 1085 0, .int 542 0, kS "/claim/cut.py" 1086], #[]⟩
noncomputable def o648 (P : Params) : Obj := ⟨.type "function", none, fD (ms 79 6) (.ofString "Design.routine") 3 [] .none .none .none (kS "gateloom.design" 915) none (.ref 647) .none 0, #[]⟩
noncomputable def o649 (P : Params) : Obj := ⟨.type "tuple", none, .seq #[kS "assigns" 1088, kS "by_path" 1089, kS "gates" 1090, kS "maker" 1091, kS "ports" 1092, kS "processes" 1093, kS "routines" 1094, kS "scopes" 1095, kS "signals" 1096, kS "tops" 1097, kS "udps" 1098] 0, #[]⟩
noncomputable def o650 (P : Params) : Obj := ⟨.type "dict", none, .dict #[kE P "__module__" 1015 (kS "gateloom.design" 915), kE P "__firstlineno__" 1019 (.int 508 1018), kE P "__init__" 1026 (.ref 606), kE P "add_signal" 1041 (.ref 613), kE P "add_scope" 1049 (.ref 620), kE P "add_routine" 1060 (.ref 627), kE P "add_process" 1071 (.ref 634), kE P "find" 1079 (.ref 641), kE P "routine" 1087 (.ref 648), kE P "__static_attributes__" 1099 (.ref 649), kE P "__dict__" 1101 (.ref 652), kE P "__weakref__" 1103 (.ref 653), kE P "__doc__" 1104 .none] 4, #[]⟩
noncomputable def o651 (P : Params) : Obj := ⟨.type "type", none, .cls ⟨(.ofString "Design"), [.type "object"], [.ref 651, .type "object"], 650, (.ofString "Design"), true, [], [], false, none, false⟩, #[none, none, (some (kS "Design" 1008)), (some (kS "Design" 1016)), (some (.builtin "object.__new__")), (some (.bool true))]⟩
noncomputable def o652 (P : Params) : Obj := ⟨.type "getset_descriptor", none, .fields #[kS "__dict__" 1100, .ref 651, .builtin "function.__dict__", .builtin "function.__dict__#set"], #[]⟩
noncomputable def o653 (P : Params) : Obj := ⟨.type "getset_descriptor", none, .fields #[kS "__weakref__" 1102, .ref 651, .builtin "ExceptionGroup.__weakref__", .none], #[]⟩
noncomputable def o654 (P : Params) : Obj := ⟨.type "super", none, .fields #[.ref 651, .ref 651, .ref 651], #[]⟩
noncomputable def o655 (P : Params) : Obj := ⟨.type "builtin_function_or_method", none, .fields #[.builtin "object.__init_subclass__", .ref 651], #[]⟩
noncomputable def t10 (P : Params) : BT := .node (boot_o_0 P) (.node (boot_o_1 P) (.node (o3v10 P) (.node (boot_o_7 P) (.node (o15 P) (.node (o31 P) (.node (o63 P) (.node (o127 P) (.node (o255 P) (.node (o511 P) (.nil) (.nil)) (.nil)) (.node (o383 P) (.node (o639 P) (.nil) (.nil)) (.nil))) (.node (o191 P) (.node (o319 P) (.node (o575 P) (.nil) (.nil)) (.nil)) (.node (o447 P) (.nil) (.nil)))) (.node (o95 P) (.node (o159 P) (.node (o287 P) (.node (o543 P) (.nil) (.nil)) (.nil)) (.node (o415 P) (.nil) (.nil))) (.node (o223 P) (.node (o351 P) (.node (o607 P) (.nil) (.nil)) (.nil)) (.node (o479 P) (.nil) (.nil))))) (.node (o47 P) (.node (o79 P) (.node (o143 P) (.node (o271 P) (.node (o527 P) (.nil) (.nil)) (.nil)) (.node (o399 P) (.node (o655 P) (.nil) (.nil)) (.nil))) (.node (o207 P) (.node (o335 P) (.node (o591 P) (.nil) (.nil)) (.nil)) (.node (o463 P) (.nil) (.nil)))) (.node (o111 P) (.node (o175 P) (.node (o303 P) (.node (o559 P) (.nil) (.nil)) (.nil)) (.node (o431 P) (.nil) (.nil))) (.node (o239 P) (.node (o367 P) (.node (o623 P) (.nil) (.nil)) (.nil)) (.node (o495 P) (.nil) (.nil)))))) (.node (o23 P) (.node (o39v1 P) (.node (o71 P) (.node (o135 P) (.node (o263 P) (.node (o519 P) (.nil) (.nil)) (.nil)) (.node (o391 P) (.node (o647 P) (.nil) (.nil)) (.nil))) (.node (o199 P) (.node (o327 P) (.node (o583 P) (.nil) (.nil)) (.nil)) (.node (o455 P) (.nil) (.nil)))) (.node (o103 P) (.node (o167 P) (.node (o295 P) (.node (o551 P) (.nil) (.nil)) (.nil)) (.node (o423 P) (.nil) (.nil))) (.node (o231 P) (.node (o359 P) (.node (o615 P) (.nil) (.nil)) (.nil)) (.node (o487 P) (.nil) (.nil))))) (.node (o55 P) (.node (o87 P) (.node (o151 P) (.node (o279 P) (.node (o535 P) (.nil) (.nil)) (.nil)) (.node (o407 P) (.nil) (.nil))) (.node (o215 P) (.node (o343 P) (.node (o599 P) (.nil) (.nil)) (.nil)) (.node (o471 P) (.nil) (.nil)))) (.node (o119 P) (.node (o183 P) (.node (o311 P) (.node (o567 P) (.nil) (.nil)) (.nil)) (.node (o439 P) (.nil) (.nil))) (.node (o247 P) (.node (o375 P) (.node (o631 P) (.nil) (.nil)) (.nil)) (.node (o503 P) (.nil) (.nil))))))) (.node (o11 P) (.node (o19 P) (.node (o35 P) (.node (o67 P) (.node (o131 P) (.node (o259 P) (.node (o515 P) (.nil) (.nil)) (.nil)) (.node (o387 P) (.node (o643 P) (.nil) (.nil)) (.nil))) (.node (o195 P) (.node (o323 P) (.node (o579 P) (.nil) (.nil)) (.nil)) (.node (o451 P) (.nil) (.nil)))) (.node (o99 P) (.node (o163 P) (.node (o291 P) (.node (o547 P) (.nil) (.nil)) (.nil)) (.node (o419 P) (.nil) (.nil))) (.node (o227 P) (.node (o355 P) (.node (o611 P) (.nil) (.nil)) (.nil)) (.node (o483 P) (.nil) (.nil))))) (.node (o51 P) (.node (o83 P) (.node (o147 P) (.node (o275 P) (.node (o531 P) (.nil) (.nil)) (.nil)) (.node (o403 P) (.nil) (.nil))) (.node (o211 P) (.node (o339 P) (.node (o595 P) (.nil) (.nil)) (.nil)) (.node (o467 P) (.nil) (.nil)))) (.node (o115 P) (.node (o179 P) (.node (o307 P) (.node (o563 P) (.nil) (.nil)) (.nil)) (.node (o435 P) (.nil) (.nil))) (.node (o243 P) (.node (o371 P) (.node (o627 P) (.nil) (.nil)) (.nil)) (.node (o499 P) (.nil) (.nil)))))) (.node (o27 P) (.node (o43 P) (.node (o75 P) (.node (o139 P) (.node (o267 P) (.node (o523 P) (.nil) (.nil)) (.nil)) (.node (o395 P) (.node (o651 P) (.nil) (.nil)) (.nil))) (.node (o203 P) (.node (o331 P) (.node (o587 P) (.nil) (.nil)) (.nil)) (.node (o459 P) (.nil) (.nil)))) (.node (o107 P) (.node (o171 P) (.node (o299 P) (.node (o555 P) (.nil) (.nil)) (.nil)) (.node (o427 P) (.nil) (.nil))) (.node (o235 P) (.node (o363 P) (.node (o619 P) (.nil) (.nil)) (.nil)) (.node (o491 P) (.nil) (.nil))))) (.node (o59 P) (.node (o91 P) (.node (o155 P) (.node (o283 P) (.node (o539 P) (.nil) (.nil)) (.nil)) (.node (o411 P) (.nil) (.nil))) (.node (o219 P) (.node (o347 P) (.node (o603 P) (.nil) (.nil)) (.nil)) (.node (o475 P) (.nil) (.nil)))) (.node (o123 P) (.node (o187 P) (.node (o315 P) (.node (o571 P) (.nil) (.nil)) (.nil)) (.node (o443 P) (.nil) (.nil))) (.node (o251 P) (.node (o379 P) (.node (o635 P) (.nil) (.nil)) (.nil)) (.node (o507 P) (.nil) (.nil)))))))) (.node (boot_o_5 P) (.node (boot_o_9 P) (.node (o17 P) (.node (o33 P) (.node (o65 P) (.node (o129 P) (.node (o257 P) (.node (o513 P) (.nil) (.nil)) (.nil)) (.node (o385 P) (.node (o641 P) (.nil) (.nil)) (.nil))) (.node (o193 P) (.node (o321 P) (.node (o577 P) (.nil) (.nil)) (.nil)) (.node (o449 P) (.nil) (.nil)))) (.node (o97 P) (.node (o161 P) (.node (o289 P) (.node (o545 P) (.nil) (.nil)) (.nil)) (.node (o417 P) (.nil) (.nil))) (.node (o225 P) (.node (o353 P) (.node (o609 P) (.nil) (.nil)) (.nil)) (.node (o481 P) (.nil) (.nil))))) (.node (o49 P) (.node (o81 P) (.node (o145 P) (.node (o273 P) (.node (o529 P) (.nil) (.nil)) (.nil)) (.node (o401 P) (.nil) (.nil))) (.node (o209 P) (.node (o337 P) (.node (o593 P) (.nil) (.nil)) (.nil)) (.node (o465 P) (.nil) (.nil)))) (.node (o113 P) (.node (o177 P) (.node (o305 P) (.node (o561 P) (.nil) (.nil)) (.nil)) (.node (o433 P) (.nil) (.nil))) (.node (o241 P) (.node (o369 P) (.node (o625 P) (.nil) (.nil)) (.nil)) (.node (o497 P) (.nil) (.nil)))))) (.node (o25 P) (.node (o41 P) (.node (o73 P) (.node (o137 P) (.node (o265 P) (.node (o521 P) (.nil) (.nil)) (.nil)) (.node (o393 P) (.node (o649 P) (.nil) (.nil)) (.nil))) (.node (o201 P) (.node (o329 P) (.node (o585 P) (.nil) (.nil)) (.nil)) (.node (o457 P) (.nil) (.nil)))) (.node (o105 P) (.node (o169 P) (.node (o297 P) (.node (o553 P) (.nil) (.nil)) (.nil)) (.node (o425 P) (.nil) (.nil))) (.node (o233 P) (.node (o361 P) (.node (o617 P) (.nil) (.nil)) (.nil)) (.node (o489 P) (.nil) (.nil))))) (.node (o57 P) (.node (o89 P) (.node (o153 P) (.node (o281 P) (.node (o537 P) (.nil) (.nil)) (.nil)) (.node (o409 P) (.nil) (.nil))) (.node (o217 P) (.node (o345 P) (.node (o601 P) (.nil) (.nil)) (.nil)) (.node (o473 P) (.nil) (.nil)))) (.node (o121 P) (.node (o185 P) (.node (o313 P) (.node (o569 P) (.nil) (.nil)) (.nil)) (.node (o441 P) (.nil) (.nil))) (.node (o249 P) (.node (o377 P) (.node (o633 P) (.nil) (.nil)) (.nil)) (.node (o505 P) (.nil) (.nil))))))) (.node (o13 P) (.node (o21 P) (.node (o37 P) (.node (o69 P) (.node (o133 P) (.node (o261 P) (.node (o517 P) (.nil) (.nil)) (.nil)) (.node (o389 P) (.node (o645 P) (.nil) (.nil)) (.nil))) (.node (o197 P) (.node (o325 P) (.node (o581 P) (.nil) (.nil)) (.nil)) (.node (o453 P) (.nil) (.nil)))) (.node (o101 P) (.node (o165 P) (.node (o293 P) (.node (o549 P) (.nil) (.nil)) (.nil)) (.node (o421 P) (.nil) (.nil))) (.node (o229 P) (.node (o357 P) (.node (o613 P) (.nil) (.nil)) (.nil)) (.node (o485 P) (.nil) (.nil))))) (.node (o53 P) (.node (o85 P) (.node (o149 P) (.node (o277 P) (.node (o533 P) (.nil) (.nil)) (.nil)) (.node (o405 P) (.nil) (.nil))) (.node (o213 P) (.node (o341 P) (.node (o597 P) (.nil) (.nil)) (.nil)) (.node (o469 P) (.nil) (.nil)))) (.node (o117 P) (.node (o181 P) (.node (o309 P) (.node (o565 P) (.nil) (.nil)) (.nil)) (.node (o437 P) (.nil) (.nil))) (.node (o245 P) (.node (o373 P) (.node (o629 P) (.nil) (.nil)) (.nil)) (.node (o501 P) (.nil) (.nil)))))) (.node (o29 P) (.node (o45 P) (.node (o77 P) (.node (o141 P) (.node (o269 P) (.node (o525 P) (.nil) (.nil)) (.nil)) (.node (o397 P) (.node (o653 P) (.nil) (.nil)) (.nil))) (.node (o205 P) (.node (o333 P) (.node (o589 P) (.nil) (.nil)) (.nil)) (.node (o461 P) (.nil) (.nil)))) (.node (o109 P) (.node (o173 P) (.node (o301 P) (.node (o557 P) (.nil) (.nil)) (.nil)) (.node (o429 P) (.nil) (.nil))) (.node (o237 P) (.node (o365 P) (.node (o621 P) (.nil) (.nil)) (.nil)) (.node (o493 P) (.nil) (.nil))))) (.node (o61 P) (.node (o93 P) (.node (o157 P) (.node (o285 P) (.node (o541 P) (.nil) (.nil)) (.nil)) (.node (o413 P) (.nil) (.nil))) (.node (o221 P) (.node (o349 P) (.node (o605 P) (.nil) (.nil)) (.nil)) (.node (o477 P) (.nil) (.nil)))) (.node (o125 P) (.node (o189 P) (.node (o317 P) (.node (o573 P) (.nil) (.nil)) (.nil)) (.node (o445 P) (.nil) (.nil))) (.node (o253 P) (.node (o381 P) (.node (o637 P) (.nil) (.nil)) (.nil)) (.node (o509 P) (.nil) (.nil))))))))) (.node (o2v1 P) (.node (boot_o_4 P) (.node (boot_o_8 P) (.node (o16 P) (.node (o32 P) (.node (o64 P) (.node (o128 P) (.node (o256 P) (.node (o512 P) (.nil) (.nil)) (.nil)) (.node (o384 P) (.node (o640 P) (.nil) (.nil)) (.nil))) (.node (o192 P) (.node (o320 P) (.node (o576 P) (.nil) (.nil)) (.nil)) (.node (o448 P) (.nil) (.nil)))) (.node (o96 P) (.node (o160 P) (.node (o288 P) (.node (o544 P) (.nil) (.nil)) (.nil)) (.node (o416 P) (.nil) (.nil))) (.node (o224 P) (.node (o352 P) (.node (o608 P) (.nil) (.nil)) (.nil)) (.node (o480 P) (.nil) (.nil))))) (.node (o48 P) (.node (o80 P) (.node (o144 P) (.node (o272 P) (.node (o528 P) (.nil) (.nil)) (.nil)) (.node (o400 P) (.nil) (.nil))) (.node (o208 P) (.node (o336 P) (.node (o592 P) (.nil) (.nil)) (.nil)) (.node (o464 P) (.nil) (.nil)))) (.node (o112 P) (.node (o176 P) (.node (o304 P) (.node (o560 P) (.nil) (.nil)) (.nil)) (.node (o432 P) (.nil) (.nil))) (.node (o240 P) (.node (o368 P) (.node (o624 P) (.nil) (.nil)) (.nil)) (.node (o496 P) (.nil) (.nil)))))) (.node (o24 P) (.node (o40 P) (.node (o72 P) (.node (o136 P) (.node (o264 P) (.node (o520 P) (.nil) (.nil)) (.nil)) (.node (o392 P) (.node (o648 P) (.nil) (.nil)) (.nil))) (.node (o200 P) (.node (o328 P) (.node (o584 P) (.nil) (.nil)) (.nil)) (.node (o456 P) (.nil) (.nil)))) (.node (o104 P) (.node (o168 P) (.node (o296 P) (.node (o552 P) (.nil) (.nil)) (.nil)) (.node (o424 P) (.nil) (.nil))) (.node (o232 P) (.node (o360 P) (.node (o616 P) (.nil) (.nil)) (.nil)) (.node (o488 P) (.nil) (.nil))))) (.node (o56 P) (.node (o88 P) (.node (o152 P) (.node (o280 P) (.node (o536 P) (.nil) (.nil)) (.nil)) (.node (o408 P) (.nil) (.nil))) (.node (o216 P) (.node (o344 P) (.node (o600 P) (.nil) (.nil)) (.nil)) (.node (o472 P) (.nil) (.nil)))) (.node (o120 P) (.node (o184 P) (.node (o312 P) (.node (o568 P) (.nil) (.nil)) (.nil)) (.node (o440 P) (.nil) (.nil))) (.node (o248 P) (.node (o376 P) (.node (o632 P) (.nil) (.nil)) (.nil)) (.node (o504 P) (.nil) (.nil))))))) (.node (o12v10 P) (.node (o20 P) (.node (o36 P) (.node (o68 P) (.node (o132 P) (.node (o260 P) (.node (o516 P) (.nil) (.nil)) (.nil)) (.node (o388 P) (.node (o644 P) (.nil) (.nil)) (.nil))) (.node (o196 P) (.node (o324 P) (.node (o580 P) (.nil) (.nil)) (.nil)) (.node (o452 P) (.nil) (.nil)))) (.node (o100 P) (.node (o164 P) (.node (o292 P) (.node (o548 P) (.nil) (.nil)) (.nil)) (.node (o420 P) (.nil) (.nil))) (.node (o228 P) (.node (o356 P) (.node (o612 P) (.nil) (.nil)) (.nil)) (.node (o484 P) (.nil) (.nil))))) (.node (o52 P) (.node (o84 P) (.node (o148 P) (.node (o276 P) (.node (o532 P) (.nil) (.nil)) (.nil)) (.node (o404 P) (.nil) (.nil))) (.node (o212 P) (.node (o340 P) (.node (o596 P) (.nil) (.nil)) (.nil)) (.node (o468 P) (.nil) (.nil)))) (.node (o116 P) (.node (o180 P) (.node (o308 P) (.node (o564 P) (.nil) (.nil)) (.nil)) (.node (o436 P) (.nil) (.nil))) (.node (o244 P) (.node (o372 P) (.node (o628 P) (.nil) (.nil)) (.nil)) (.node (o500 P) (.nil) (.nil)))))) (.node (o28 P) (.node (o44 P) (.node (o76 P) (.node (o140 P) (.node (o268 P) (.node (o524 P) (.nil) (.nil)) (.nil)) (.node (o396 P) (.node (o652 P) (.nil) (.nil)) (.nil))) (.node (o204 P) (.node (o332 P) (.node (o588 P) (.nil) (.nil)) (.nil)) (.node (o460 P) (.nil) (.nil)))) (.node (o108 P) (.node (o172 P) (.node (o300 P) (.node (o556 P) (.nil) (.nil)) (.nil)) (.node (o428 P) (.nil) (.nil))) (.node (o236 P) (.node (o364 P) (.node (o620 P) (.nil) (.nil)) (.nil)) (.node (o492 P) (.nil) (.nil))))) (.node (o60 P) (.node (o92 P) (.node (o156 P) (.node (o284 P) (.node (o540 P) (.nil) (.nil)) (.nil)) (.node (o412 P) (.nil) (.nil))) (.node (o220 P) (.node (o348 P) (.node (o604 P) (.nil) (.nil)) (.nil)) (.node (o476 P) (.nil) (.nil)))) (.node (o124 P) (.node (o188 P) (.node (o316 P) (.node (o572 P) (.nil) (.nil)) (.nil)) (.node (o444 P) (.nil) (.nil))) (.node (o252 P) (.node (o380 P) (.node (o636 P) (.nil) (.nil)) (.nil)) (.node (o508 P) (.nil) (.nil)))))))) (.node (boot_o_6 P) (.node (boot_o_10 P) (.node (o18 P) (.node (o34 P) (.node (o66 P) (.node (o130 P) (.node (o258 P) (.node (o514 P) (.nil) (.nil)) (.nil)) (.node (o386 P) (.node (o642 P) (.nil) (.nil)) (.nil))) (.node (o194 P) (.node (o322 P) (.node (o578 P) (.nil) (.nil)) (.nil)) (.node (o450 P) (.nil) (.nil)))) (.node (o98 P) (.node (o162 P) (.node (o290 P) (.node (o546 P) (.nil) (.nil)) (.nil)) (.node (o418 P) (.nil) (.nil))) (.node (o226 P) (.node (o354 P) (.node (o610 P) (.nil) (.nil)) (.nil)) (.node (o482 P) (.nil) (.nil))))) (.node (o50 P) (.node (o82 P) (.node (o146 P) (.node (o274 P) (.node (o530 P) (.nil) (.nil)) (.nil)) (.node (o402 P) (.nil) (.nil))) (.node (o210 P) (.node (o338 P) (.node (o594 P) (.nil) (.nil)) (.nil)) (.node (o466 P) (.nil) (.nil)))) (.node (o114 P) (.node (o178 P) (.node (o306 P) (.node (o562 P) (.nil) (.nil)) (.nil)) (.node (o434 P) (.nil) (.nil))) (.node (o242 P) (.node (o370 P) (.node (o626 P) (.nil) (.nil)) (.nil)) (.node (o498 P) (.nil) (.nil)))))) (.node (o26 P) (.node (o42 P) (.node (o74 P) (.node (o138 P) (.node (o266 P) (.node (o522 P) (.nil) (.nil)) (.nil)) (.node (o394 P) (.node (o650 P) (.nil) (.nil)) (.nil))) (.node (o202 P) (.node (o330 P) (.node (o586 P) (.nil) (.nil)) (.nil)) (.node (o458 P) (.nil) (.nil)))) (.node (o106 P) (.node (o170 P) (.node (o298 P) (.node (o554 P) (.nil) (.nil)) (.nil)) (.node (o426 P) (.nil) (.nil))) (.node (o234 P) (.node (o362 P) (.node (o618 P) (.nil) (.nil)) (.nil)) (.node (o490 P) (.nil) (.nil))))) (.node (o58 P) (.node (o90 P) (.node (o154 P) (.node (o282 P) (.node (o538 P) (.nil) (.nil)) (.nil)) (.node (o410 P) (.nil) (.nil))) (.node (o218 P) (.node (o346 P) (.node (o602 P) (.nil) (.nil)) (.nil)) (.node (o474 P) (.nil) (.nil)))) (.node (o122 P) (.node (o186 P) (.node (o314 P) (.node (o570 P) (.nil) (.nil)) (.nil)) (.node (o442 P) (.nil) (.nil))) (.node (o250 P) (.node (o378 P) (.node (o634 P) (.nil) (.nil)) (.nil)) (.node (o506 P) (.nil) (.nil))))))) (.node (o14 P) (.node (o22 P) (.node (o38 P) (.node (o70 P) (.node (o134 P) (.node (o262 P) (.node (o518 P) (.nil) (.nil)) (.nil)) (.node (o390 P) (.node (o646 P) (.nil) (.nil)) (.nil))) (.node (o198 P) (.node (o326 P) (.node (o582 P) (.nil) (.nil)) (.nil)) (.node (o454 P) (.nil) (.nil)))) (.node (o102 P) (.node (o166 P) (.node (o294 P) (.node (o550 P) (.nil) (.nil)) (.nil)) (.node (o422 P) (.nil) (.nil))) (.node (o230 P) (.node (o358 P) (.node (o614 P) (.nil) (.nil)) (.nil)) (.node (o486 P) (.nil) (.nil))))) (.node (o54 P) (.node (o86 P) (.node (o150 P) (.node (o278 P) (.node (o534 P) (.nil) (.nil)) (.nil)) (.node (o406 P) (.nil) (.nil))) (.node (o214 P) (.node (o342 P) (.node (o598 P) (.nil) (.nil)) (.nil)) (.node (o470 P) (.nil) (.nil)))) (.node (o118 P) (.node (o182 P) (.node (o310 P) (.node (o566 P) (.nil) (.nil)) (.nil)) (.node (o438 P) (.nil) (.nil))) (.node (o246 P) (.node (o374 P) (.node (o630 P) (.nil) (.nil)) (.nil)) (.node (o502 P) (.nil) (.nil)))))) (.node (o30 P) (.node (o46 P) (.node (o78 P) (.node (o142 P) (.node (o270 P) (.node (o526 P) (.nil) (.nil)) (.nil)) (.node (o398 P) (.node (o654 P) (.nil) (.nil)) (.nil))) (.node (o206 P) (.node (o334 P) (.node (o590 P) (.nil) (.nil)) (.nil)) (.node (o462 P) (.nil) (.nil)))) (.node (o110 P) (.node (o174 P) (.node (o302 P) (.node (o558 P) (.nil) (.nil)) (.nil)) (.node (o430 P) (.nil) (.nil))) (.node (o238 P) (.node (o366 P) (.node (o622 P) (.nil) (.nil)) (.nil)) (.node (o494 P) (.nil) (.nil))))) (.node (o62 P) (.node (o94 P) (.node (o158 P) (.node (o286 P) (.node (o542 P) (.nil) (.nil)) (.nil)) (.node (o414 P) (.nil) (.nil))) (.node (o222 P) (.node (o350 P) (.node (o606 P) (.nil) (.nil)) (.nil)) (.node (o478 P) (.nil) (.nil)))) (.node (o126 P) (.node (o190 P) (.node (o318 P) (.node (o574 P) (.nil) (.nil)) (.nil)) (.node (o446 P) (.nil) (.nil))) (.node (o254 P) (.node (o382 P) (.node (o638 P) (.nil) (.nil)) (.nil)) (.node (o510 P) (.nil) (.nil)))))))))
noncomputable def g9 : List Stmt := [st 79]
noncomputable abbrev S10 (w : World) (os : OsState) : SharedT := ⟨t10 w.params, 656, {}, #[], {}, 1107, os⟩
theorem pc9 (w : World) (os : OsState) : segRun treeTable PW w 11 an0 1 437 (S9 w os).abs (piecesOf g9 env0 cE ⟨462, 0, 507, 20⟩ fr0) = some (.next, (S10 w os).abs, cE, ⟨508, 0, 543, 16⟩) := by
  refine segRun_of ?_
  rewrite [TE_segRunT, TE_tree]
  kernel_rfl
noncomputable def o3v11 (P : Params) : Obj := ⟨.type "dict", none, .dict #[kE P "__name__" 165 (kS "gateloom.store" 1107), kE P "__doc__" 166 .none, kE P "__package__" 167 .none, kE P "__loader__" 168 (.builtin "__main__.__loader__#opaque"), kE P "__spec__" 169 .none, kE P "__annotations__" 170 (.ref 6), kE P "__builtins__" 171 (.ref 4), kE P "__file__" 173 (kS "/claim/cut.py" 172), kE P "__cached__" 174 .none, kE P "_wall" 193 (.ref 21), kE P "GateloomError" 231 (.ref 39), kE P "DesignError" 247 (.ref 52), kE P "mask" 256 (.ref 61), kE P "vec" 267 (.ref 69), kE P "zeros" 274 (.ref 76), kE P "all_x" 282 (.ref 83), kE P "all_z" 289 (.ref 90), kE P "from_int" 297 (.ref 97), kE P "is_known" 304 (.ref 104), kE P "to_int" 315 (.ref 111), kE P "code" 323 (.ref 118), kE P "slice_vec" 339 (.ref 125), kE P "put_slice" 355 (.ref 132), kE P "concat" 366 (.ref 139), kE P "extend" 379 (.ref 146), kE P "z_to_x" 386 (.ref 153), kE P "truth" 393 (.ref 160), kE P "add" 403 (.ref 167), kE P "sub" 411 (.ref 174), kE P "mul" 419 (.ref 181), kE P "neg" 426 (.ref 188), kE P "quotient" 435 (.ref 195), kE P "div" 446 (.ref 202), kE P "mod" 457 (.ref 209), kE P "raise_whole" 470 (.ref 216), kE P "power" 483 (.ref 223), kE P "shift_left" 493 (.ref 230), kE P "shift_right" 502 (.ref 237), kE P "shift_arith" 517 (.ref 244), kE P "ordered" 528 (.ref 251), kE P "less" 538 (.ref 258), kE P "less_equal" 548 (.ref 265), kE P "greater" 557 (.ref 272), kE P "greater_equal" 566 (.ref 279), kE P "one_bit" 575 (.ref 286), kE P "bit_not" 585 (.ref 293), kE P "bit_and" 599 (.ref 300), kE P "bit_or" 614 (.ref 307), kE P "bit_xor" 623 (.ref 314), kE P "bit_xnor" 631 (.ref 321), kE P "reduce_and" 641 (.ref 328), kE P "reduce_nand" 648 (.ref 335), kE P "reduce_or" 655 (.ref 342), kE P "reduce_nor" 662 (.ref 349), kE P "reduce_xor" 671 (.ref 356), kE P "reduce_xnor" 678 (.ref 363), kE P "logic_not" 685 (.ref 370), kE P "logic_and" 693 (.ref 377), kE P "logic_or" 701 (.ref 384), kE P "equal" 710 (.ref 391), kE P "not_equal" 718 (.ref 398), kE P "case_equal" 726 (.ref 405), kE P "case_not_equal" 734 (.ref 412), kE P "choose" 747 (.ref 419), kE P "unary" 757 (.ref 426), kE P "arithmetic" 767 (.ref 433), kE P "comparison" 777 (.ref 440), kE P "bitwise" 786 (.ref 447), kE P "binary" 797 (.ref 454), kE P "whole_of" 806 (.ref 461), kE P "memory_word" 816 (.ref 468), kE P "picked" 826 (.ref 475), kE P "conditional" 836 (.ref 482), kE P "bits_needed" 844 (.ref 489), kE P "system_value" 855 (.ref 496), kE P "evaluate" 861 (.ref 501), kE P "locate" 870 (.ref 508), kE P "holder_width" 878 (.ref 515), kE P "resolve_target" 897 (.ref 522), kE P "store_rows" 914 (.ref 529), kE P "net_kinds" 922 (.ref 536), kE P "Signal" 1007 (.ref 588), kE P "Design" 1106 (.ref 651), kE P "Store" 1174 (.ref 693)] 84, #[]⟩
noncomputable def o12v11 (P : Params) : Obj := ⟨.none, none, .fields #[.int 1 0, .int 0 0, .ref 20, .int 5 0, .int 0 0, .ref 27, .int 11 0, .int 0 0, .ref 48, .int 14 0, .int 0 0, .ref 60, .int 16 0, .int 0 0, .ref 68, .int 19 0, .int 0 0, .ref 75, .int 21 0, .int 0 0, .ref 82, .int 24 0, .int 0 0, .ref 89, .int 26 0, .int 0 0, .ref 96, .int 28 0, .int 0 0, .ref 103, .int 30 0, .int 0 0, .ref 110, .int 37 0, .int 0 0, .ref 117, .int 39 0, .int 0 0, .ref 124, .int 50 0, .int 0 0, .ref 131, .int 61 0, .int 0 0, .ref 138, .int 70 0, .int 0 0, .ref 145, .int 80 0, .int 0 0, .ref 152, .int 82 0, .int 0 0, .ref 159, .int 89 0, .int 0 0, .ref 166, .int 93 0, .int 0 0, .ref 173, .int 97 0, .int 0 0, .ref 180, .int 101 0, .int 0 0, .ref 187, .int 105 0, .int 0 0, .ref 194, .int 110 0, .int 0 0, .ref 201, .int 116 0, .int 0 0, .ref 208, .int 122 0, .int 0 0, .ref 215, .int 133 0, .int 0 0, .ref 222, .int 148 0, .int 0 0, .ref 229, .int 156 0, .int 0 0, .ref 236, .int 163 0, .int 0 0, .ref 243, .int 173 0, .int 0 0, .ref 250, .int 181 0, .int 0 0, .ref 257, .int 186 0, .int 0 0, .ref 264, .int 191 0, .int 0 0, .ref 271, .int 193 0, .int 0 0, .ref 278, .int 196 0, .int 0 0, .ref 285, .int 198 0, .int 0 0, .ref 292, .int 201 0, .int 0 0, .ref 299, .int 206 0, .int 0 0, .ref 306, .int 212 0, .int 0 0, .ref 313, .int 215 0, .int 0 0, .ref 320, .int 217 0, .int 0 0, .ref 327, .int 222 0, .int 0 0, .ref 334, .int 224 0, .int 0 0, .ref 341, .int 226 0, .int 0 0, .ref 348, .int 228 0, .int 0 0, .ref 355, .int 237 0, .int 0 0, .ref 362, .int 239 0, .int 0 0, .ref 369, .int 241 0, .int 0 0, .ref 376, .int 243 0, .int 0 0, .ref 383, .int 245 0, .int 0 0, .ref 390, .int 250 0, .int 0 0, .ref 397, .int 252 0, .int 0 0, .ref 404, .int 254 0, .int 0 0, .ref 411, .int 256 0, .int 0 0, .ref 418, .int 267 0, .int 0 0, .ref 425, .int 287 0, .int 0 0, .ref 432, .int 305 0, .int 0 0, .ref 439, .int 323 0, .int 0 0, .ref 446, .int 337 0, .int 0 0, .ref 453, .int 346 0, .int 0 0, .ref 460, .int 348 0, .int 0 0, .ref 467, .int 356 0, .int 0 0, .ref 474, .int 362 0, .int 0 0, .ref 481, .int 370 0, .int 0 0, .ref 488, .int 375 0, .int 0 0, .ref 495, .int 388 0, .int 0 0, .ref 500, .int 419 0, .int 0 0, .ref 507, .int 426 0, .int 0 0, .ref 514, .int 430 0, .int 0 0, .ref 521, .int 449 0, .int 0 0, .ref 528, .int 460 0, .int 0 0, .ref 535, .int 462 0, .int 0 0, .ref 542, .int 508 0, .int 0 0, .ref 598, .int 545 0, .int 0 0, .ref 661], #[]⟩
noncomputable def o656 (P : Params) : Obj := ⟨.type "tuple", none, .seq #[] 0, #[]⟩
noncomputable def o657 (P : Params) : Obj := ⟨.type "builtin_function_or_method", none, .fields #[.builtin "type.__prepare__", .type "type"], #[]⟩
noncomputable def o658 (P : Params) : Obj := ⟨.type "dict", none, .dict #[kE P "__module__" 1116 (kS "gateloom.store" 1107), kE P "__qualname__" 1118 (kS "Store" 1117), kE P "__firstlineno__" 1120 (.int 545 1119), kE P "__init__" 1128 (.ref 669), kE P "get" 1138 (.ref 676), kE P "word" 1149 (.ref 683), kE P "set_bits" 1162 (.ref 690), kE P "__static_attributes__" 1167 (.ref 691)] 8, #[]⟩
noncomputable def o659 (P : Params) : Obj := ⟨.type "tuple", none, .seq #[] 0, #[]⟩
noncomputable def o660 (P : Params) : Obj := ⟨.none, none, .fields #[.int 547 0, .int 4 0, .ref 668, .int 553 0, .int 4 0, .ref 675, .int 562 0, .int 4 0, .ref 682, .int 570 0, .int 4 0, .ref 689], #[]⟩
noncomputable def o661 (P : Params) : Obj := ⟨.type "code", none, .fields #[kS "Store" 1111, kS "Store" 1112, kS "/claim/cut.py" 1113, .int 545 0, .int 0 0, .int 0 0, .int 0 0, .int 0 0, .ref 659, .bool false, .int 181 0, .ref 660, .none, .none, .none, .none, .int 1114 0, .int 545 0, kS "/claim/cut.py" 1115], #[]⟩
noncomputable def o662 (P : Params) : Obj := ⟨.type "frame", none, .plain, #[(some (.ref 661)), (some (.ref 3)), (some (.ref 658)), none, (some (kS "gateloom.store" 1107)), none, (some (.ref 0))]⟩
noncomputable def o663 (P : Params) : Obj := ⟨.type "tuple", none, .seq #[] 0, #[]⟩
noncomputable def o664 (P : Params) : Obj := ⟨.none, none, .fields #[], #[]⟩
noncomputable def o665 (P : Params) : Obj := ⟨.type "tuple", none, .seq #[kS "self" 1124, kS "signals" 1125] 0, #[]⟩
noncomputable def o666 (P : Params) : Obj := ⟨.type "tuple", none, .seq #[] 0, #[]⟩
noncomputable def o667 (P : Params) : Obj := ⟨.none, none, fD (ms 81 0) (.ofString "Store.__init__") 0 [] .none .none .none .none none .none .none 0, #[]⟩
noncomputable def o668 (P : Params) : Obj := ⟨.type "code", none, .fields #[kS "__init__" 1121, kS "Store.__init__" 1122, kS "/claim/cut.py" 1123, .int 547 0, .int 2 0, .int 0 0, .int 0 0, .int 3 0, .ref 663, .bool true, .int 181 0, .ref 664, .none, .ref 665, .ref 666, .ref 667, .int 1126 0, .int 547 0, kS "/claim/cut.py" 1127], #[]⟩
noncomputable def o669 (P : Params) : Obj := ⟨.type "function", none, fD (ms 81 0) (.ofString "Store.__init__") 3 [] .none .none .none (kS "gateloom.store" 1107) none (.ref 668) .none 0, #[]⟩
noncomputable def o670 (P : Params) : Obj := ⟨.type "tuple", none, .seq #[] 0, #[]⟩
noncomputable def o671 (P : Params) : Obj := ⟨.none, none, .fields #[], #[]⟩
noncomputable def o672 (P : Params) : Obj := ⟨.type "tuple", none, .seq #[kS "self" 1132, kS "key" 1133, kS "value" 1134, kS "signal" 1135] 0, #[]⟩
noncomputable def o673 (P : Params) : Obj := ⟨.type "tuple", none, .seq #[] 0, #[]⟩
noncomputable def o674 (P : Params) : Obj := ⟨.none, none, fD (ms 81 1) (.ofString "Store.get") 0 [] .none .none .none .none none .none .none 0, #[]⟩
noncomputable def o675 (P : Params) : Obj := ⟨.type "code", none, .fields #[kS "get" 1129, kS "Store.get" 1130, kS "/claim/cut.py" 1131, .int 553 0, .int 2 0, .int 0 0, .int 0 0, .int 3 0, .ref 670, .bool true, .int 181 0, .ref 671, .none, .ref 672, .ref 673, .ref 674, .int 1136 0, .int 553 0, kS "/claim/cut.py" 1137], #[]⟩
noncomputable def o676 (P : Params) : Obj := ⟨.type "function", none, fD (ms 81 1) (.ofString "Store.get") 3 [] .none .none .none (kS "gateloom.store" 1107) none (.ref 675) .none 0, #[]⟩
noncomputable def o677 (P : Params) : Obj := ⟨.type "tuple", none, .seq #[] 0, #[]⟩
noncomputable def o678 (P : Params) : Obj := ⟨.none, none, .fields #[], #[]⟩
noncomputable def o679 (P : Params) : Obj := ⟨.type "tuple", none, .seq #[kS "self" 1142, kS "key" 1143, kS "place" 1144, kS "words" 1145, kS "value" 1146] 0, #[]⟩
noncomputable def o680 (P : Params) : Obj := ⟨.type "tuple", none, .seq #[] 0, #[]⟩
noncomputable def o681 (P : Params) : Obj := ⟨.none, none, fD (ms 81 2) (.ofString "Store.word") 0 [] .none .none .none .none none .none .none 0, #[]⟩
noncomputable def o682 (P : Params) : Obj := ⟨.type "code", none, .fields #[kS "word" 1139, kS "Store.word" 1140, kS "/claim/cut.py" 1141, .int 562 0, .int 3 0, .int 0 0, .int 0 0, .int 3 0, .ref 677, .bool true, .int 181 0, .ref 678, .none, .ref 679, .ref 680, .ref 681, .int 1147 0, .int 562 0, kS "/claim/cut.py" 1148], #[]⟩
noncomputable def o683 (P : Params) : Obj := ⟨.type "function", none, fD (ms 81 2) (.ofString "Store.word") 3 [] .none .none .none (kS "gateloom.store" 1107) none (.ref 682) .none 0, #[]⟩
noncomputable def o684 (P : Params) : Obj := ⟨.type "tuple", none, .seq #[] 0, #[]⟩
noncomputable def o685 (P : Params) : Obj := ⟨.none, none, .fields #[], #[]⟩
noncomputable def o686 (P : Params) : Obj := ⟨.type "tuple", none, .seq #[kS "self" 1153, kS "key" 1154, kS "place" 1155, kS "lo" 1156, kS "value" 1157, kS "old" 1158, kS "new" 1159] 0, #[]⟩
noncomputable def o687 (P : Params) : Obj := ⟨.type "tuple", none, .seq #[] 0, #[]⟩
noncomputable def o688 (P : Params) : Obj := ⟨.none, none, fD (ms 81 3) (.ofString "Store.set_bits") 0 [] .none .none .none .none none .none .none 0, #[]⟩
noncomputable def o689 (P : Params) : Obj := ⟨.type "code", none, .fields #[kS "set_bits" 1150, kS "Store.set_bits" 1151, kS "/claim/cut.py" 1152, .int 570 0, .int 5 0, .int 0 0, .int 0 0, .int 3 0, .ref 684, .bool true, .int 181 0, .ref 685, .none, .ref 686, .ref 687, .ref 688, .int 1160 0, .int 570 0, kS "/claim/cut.py" 1161], #[]⟩
noncomputable def o690 (P : Params) : Obj := ⟨.type "function", none, fD (ms 81 3) (.ofString "Store.set_bits") 3 [] .none .none .none (kS "gateloom.store" 1107) none (.ref 689) .none 0, #[]⟩
noncomputable def o691 (P : Params) : Obj := ⟨.type "tuple", none, .seq #[kS "memories" 1163, kS "random_seed" 1164, kS "signals" 1165, kS "values" 1166] 0, #[]⟩
noncomputable def o692 (P : Params) : Obj := ⟨.type "dict", none, .dict #[kE P "__module__" 1116 (kS "gateloom.store" 1107), kE P "__firstlineno__" 1120 (.int 545 1119), kE P "__init__" 1128 (.ref 669), kE P "get" 1138 (.ref 676), kE P "word" 1149 (.ref 683), kE P "set_bits" 1162 (.ref 690), kE P "__static_attributes__" 1167 (.ref 691), kE P "__dict__" 1169 (.ref 694), kE P "__weakref__" 1171 (.ref 695), kE P "__doc__" 1172 .none] 4, #[]⟩
noncomputable def o693 (P : Params) : Obj := ⟨.type "type", none, .cls ⟨(.ofString "Store"), [.type "object"], [.ref 693, .type "object"], 692, (.ofString "Store"), true, [], [], false, none, false⟩, #[none, none, (some (kS "Store" 1109)), (some (kS "Store" 1117)), (some (.builtin "object.__new__")), (some (.bool true))]⟩
noncomputable def o694 (P : Params) : Obj := ⟨.type "getset_descriptor", none, .fields #[kS "__dict__" 1168, .ref 693, .builtin "function.__dict__", .builtin "function.__dict__#set"], #[]⟩
noncomputable def o695 (P : Params) : Obj := ⟨.type "getset_descriptor", none, .fields #[kS "__weakref__" 1170, .ref 693, .builtin "ExceptionGroup.__weakref__", .none], #[]⟩
noncomputable def o696 (P : Params) : Obj := ⟨.type "super", none, .fields #[.ref 693, .ref 693, .ref 693], #[]⟩
noncomputable def o697 (P : Params) : Obj := ⟨.type "builtin_function_or_method", none, .fields #[.builtin "object.__init_subclass__", .ref 693], #[]⟩
noncomputable def t11 (P : Params) : BT := .node (boot_o_0 P) (.node (boot_o_1 P) (.node (o3v11 P) (.node (boot_o_7 P) (.node (o15 P) (.node (o31 P) (.node (o63 P) (.node (o127 P) (.node (o255 P) (.node (o511 P) (.nil) (.nil)) (.nil)) (.node (o383 P) (.node (o639 P) (.nil) (.nil)) (.nil))) (.node (o191 P) (.node (o319 P) (.node (o575 P) (.nil) (.nil)) (.nil)) (.node (o447 P) (.nil) (.nil)))) (.node (o95 P) (.node (o159 P) (.node (o287 P) (.node (o543 P) (.nil) (.nil)) (.nil)) (.node (o415 P) (.node (o671 P) (.nil) (.nil)) (.nil))) (.node (o223 P) (.node (o351 P) (.node (o607 P) (.nil) (.nil)) (.nil)) (.node (o479 P) (.nil) (.nil))))) (.node (o47 P) (.node (o79 P) (.node (o143 P) (.node (o271 P) (.node (o527 P) (.nil) (.nil)) (.nil)) (.node (o399 P) (.node (o655 P) (.nil) (.nil)) (.nil))) (.node (o207 P) (.node (o335 P) (.node (o591 P) (.nil) (.nil)) (.nil)) (.node (o463 P) (.nil) (.nil)))) (.node (o111 P) (.node (o175 P) (.node (o303 P) (.node (o559 P) (.nil) (.nil)) (.nil)) (.node (o431 P) (.node (o687 P) (.nil) (.nil)) (.nil))) (.node (o239 P) (.node (o367 P) (.node (o623 P) (.nil) (.nil)) (.nil)) (.node (o495 P) (.nil) (.nil)))))) (.node (o23 P) (.node (o39v1 P) (.node (o71 P) (.node (o135 P) (.node (o263 P) (.node (o519 P) (.nil) (.nil)) (.nil)) (.node (o391 P) (.node (o647 P) (.nil) (.nil)) (.nil))) (.node (o199 P) (.node (o327 P) (.node (o583 P) (.nil) (.nil)) (.nil)) (.node (o455 P) (.nil) (.nil)))) (.node (o103 P) (.node (o167 P) (.node (o295 P) (.node (o551 P) (.nil) (.nil)) (.nil)) (.node (o423 P) (.node (o679 P) (.nil) (.nil)) (.nil))) (.node (o231 P) (.node (o359 P) (.node (o615 P) (.nil) (.nil)) (.nil)) (.node (o487 P) (.nil) (.nil))))) (.node (o55 P) (.node (o87 P) (.node (o151 P) (.node (o279 P) (.node (o535 P) (.nil) (.nil)) (.nil)) (.node (o407 P) (.node (o663 P) (.nil) (.nil)) (.nil))) (.node (o215 P) (.node (o343 P) (.node (o599 P) (.nil) (.nil)) (.nil)) (.node (o471 P) (.nil) (.nil)))) (.node (o119 P) (.node (o183 P) (.node (o311 P) (.node (o567 P) (.nil) (.nil)) (.nil)) (.node (o439 P) (.node (o695 P) (.nil) (.nil)) (.nil))) (.node (o247 P) (.node (o375 P) (.node (o631 P) (.nil) (.nil)) (.nil)) (.node (o503 P) (.nil) (.nil))))))) (.node (o11 P) (.node (o19 P) (.node (o35 P) (.node (o67 P) (.node (o131 P) (.node (o259 P) (.node (o515 P) (.nil) (.nil)) (.nil)) (.node (o387 P) (.node (o643 P) (.nil) (.nil)) (.nil))) (.node (o195 P) (.node (o323 P) (.node (o579 P) (.nil) (.nil)) (.nil)) (.node (o451 P) (.nil) (.nil)))) (.node (o99 P) (.node (o163 P) (.node (o291 P) (.node (o547 P) (.nil) (.nil)) (.nil)) (.node (o419 P) (.node (o675 P) (.nil) (.nil)) (.nil))) (.node (o227 P) (.node (o355 P) (.node (o611 P) (.nil) (.nil)) (.nil)) (.node (o483 P) (.nil) (.nil))))) (.node (o51 P) (.node (o83 P) (.node (o147 P) (.node (o275 P) (.node (o531 P) (.nil) (.nil)) (.nil)) (.node (o403 P) (.node (o659 P) (.nil) (.nil)) (.nil))) (.node (o211 P) (.node (o339 P) (.node (o595 P) (.nil) (.nil)) (.nil)) (.node (o467 P) (.nil) (.nil)))) (.node (o115 P) (.node (o179 P) (.node (o307 P) (.node (o563 P) (.nil) (.nil)) (.nil)) (.node (o435 P) (.node (o691 P) (.nil) (.nil)) (.nil))) (.node (o243 P) (.node (o371 P) (.node (o627 P) (.nil) (.nil)) (.nil)) (.node (o499 P) (.nil) (.nil)))))) (.node (o27 P) (.node (o43 P) (.node (o75 P) (.node (o139 P) (.node (o267 P) (.node (o523 P) (.nil) (.nil)) (.nil)) (.node (o395 P) (.node (o651 P) (.nil) (.nil)) (.nil))) (.node (o203 P) (.node (o331 P) (.node (o587 P) (.nil) (.nil)) (.nil)) (.node (o459 P) (.nil) (.nil)))) (.node (o107 P) (.node (o171 P) (.node (o299 P) (.node (o555 P) (.nil) (.nil)) (.nil)) (.node (o427 P) (.node (o683 P) (.nil) (.nil)) (.nil))) (.node (o235 P) (.node (o363 P) (.node (o619 P) (.nil) (.nil)) (.nil)) (.node (o491 P) (.nil) (.nil))))) (.node (o59 P) (.node (o91 P) (.node (o155 P) (.node (o283 P) (.node (o539 P) (.nil) (.nil)) (.nil)) (.node (o411 P) (.node (o667 P) (.nil) (.nil)) (.nil))) (.node (o219 P) (.node (o347 P) (.node (o603 P) (.nil) (.nil)) (.nil)) (.node (o475 P) (.nil) (.nil)))) (.node (o123 P) (.node (o187 P) (.node (o315 P) (.node (o571 P) (.nil) (.nil)) (.nil)) (.node (o443 P) (.nil) (.nil))) (.node (o251 P) (.node (o379 P) (.node (o635 P) (.nil) (.nil)) (.nil)) (.node (o507 P) (.nil) (.nil)))))))) (.node (boot_o_5 P) (.node (boot_o_9 P) (.node (o17 P) (.node (o33 P) (.node (o65 P) (.node (o129 P) (.node (o257 P) (.node (o513 P) (.nil) (.nil)) (.nil)) (.node (o385 P) (.node (o641 P) (.nil) (.nil)) (.nil))) (.node (o193 P) (.node (o321 P) (.node (o577 P) (.nil) (.nil)) (.nil)) (.node (o449 P) (.nil) (.nil)))) (.node (o97 P) (.node (o161 P) (.node (o289 P) (.node (o545 P) (.nil) (.nil)) (.nil)) (.node (o417 P) (.node (o673 P) (.nil) (.nil)) (.nil))) (.node (o225 P) (.node (o353 P) (.node (o609 P) (.nil) (.nil)) (.nil)) (.node (o481 P) (.nil) (.nil))))) (.node (o49 P) (.node (o81 P) (.node (o145 P) (.node (o273 P) (.node (o529 P) (.nil) (.nil)) (.nil)) (.node (o401 P) (.node (o657 P) (.nil) (.nil)) (.nil))) (.node (o209 P) (.node (o337 P) (.node (o593 P) (.nil) (.nil)) (.nil)) (.node (o465 P) (.nil) (.nil)))) (.node (o113 P) (.node (o177 P) (.node (o305 P) (.node (o561 P) (.nil) (.nil)) (.nil)) (.node (o433 P) (.node (o689 P) (.nil) (.nil)) (.nil))) (.node (o241 P) (.node (o369 P) (.node (o625 P) (.nil) (.nil)) (.nil)) (.node (o497 P) (.nil) (.nil)))))) (.node (o25 P) (.node (o41 P) (.node (o73 P) (.node (o137 P) (.node (o265 P) (.node (o521 P) (.nil) (.nil)) (.nil)) (.node (o393 P) (.node (o649 P) (.nil) (.nil)) (.nil))) (.node (o201 P) (.node (o329 P) (.node (o585 P) (.nil) (.nil)) (.nil)) (.node (o457 P) (.nil) (.nil)))) (.node (o105 P) (.node (o169 P) (.node (o297 P) (.node (o553 P) (.nil) (.nil)) (.nil)) (.node (o425 P) (.node (o681 P) (.nil) (.nil)) (.nil))) (.node (o233 P) (.node (o361 P) (.node (o617 P) (.nil) (.nil)) (.nil)) (.node (o489 P) (.nil) (.nil))))) (.node (o57 P) (.node (o89 P) (.node (o153 P) (.node (o281 P) (.node (o537 P) (.nil) (.nil)) (.nil)) (.node (o409 P) (.node (o665 P) (.nil) (.nil)) (.nil))) (.node (o217 P) (.node (o345 P) (.node (o601 P) (.nil) (.nil)) (.nil)) (.node (o473 P) (.nil) (.nil)))) (.node (o121 P) (.node (o185 P) (.node (o313 P) (.node (o569 P) (.nil) (.nil)) (.nil)) (.node (o441 P) (.node (o697 P) (.nil) (.nil)) (.nil))) (.node (o249 P) (.node (o377 P) (.node (o633 P) (.nil) (.nil)) (.nil)) (.node (o505 P) (.nil) (.nil))))))) (.node (o13 P) (.node (o21 P) (.node (o37 P) (.node (o69 P) (.node (o133 P) (.node (o261 P) (.node (o517 P) (.nil) (.nil)) (.nil)) (.node (o389 P) (.node (o645 P) (.nil) (.nil)) (.nil))) (.node (o197 P) (.node (o325 P) (.node (o581 P) (.nil) (.nil)) (.nil)) (.node (o453 P) (.nil) (.nil)))) (.node (o101 P) (.node (o165 P) (.node (o293 P) (.node (o549 P) (.nil) (.nil)) (.nil)) (.node (o421 P) (.node (o677 P) (.nil) (.nil)) (.nil))) (.node (o229 P) (.node (o357 P) (.node (o613 P) (.nil) (.nil)) (.nil)) (.node (o485 P) (.nil) (.nil))))) (.node (o53 P) (.node (o85 P) (.node (o149 P) (.node (o277 P) (.node (o533 P) (.nil) (.nil)) (.nil)) (.node (o405 P) (.node (o661 P) (.nil) (.nil)) (.nil))) (.node (o213 P) (.node (o341 P) (.node (o597 P) (.nil) (.nil)) (.nil)) (.node (o469 P) (.nil) (.nil)))) (.node (o117 P) (.node (o181 P) (.node (o309 P) (.node (o565 P) (.nil) (.nil)) (.nil)) (.node (o437 P) (.node (o693 P) (.nil) (.nil)) (.nil))) (.node (o245 P) (.node (o373 P) (.node (o629 P) (.nil) (.nil)) (.nil)) (.node (o501 P) (.nil) (.nil)))))) (.node (o29 P) (.node (o45 P) (.node (o77 P) (.node (o141 P) (.node (o269 P) (.node (o525 P) (.nil) (.nil)) (.nil)) (.node (o397 P) (.node (o653 P) (.nil) (.nil)) (.nil))) (.node (o205 P) (.node (o333 P) (.node (o589 P) (.nil) (.nil)) (.nil)) (.node (o461 P) (.nil) (.nil)))) (.node (o109 P) (.node (o173 P) (.node (o301 P) (.node (o557 P) (.nil) (.nil)) (.nil)) (.node (o429 P) (.node (o685 P) (.nil) (.nil)) (.nil))) (.node (o237 P) (.node (o365 P) (.node (o621 P) (.nil) (.nil)) (.nil)) (.node (o493 P) (.nil) (.nil))))) (.node (o61 P) (.node (o93 P) (.node (o157 P) (.node (o285 P) (.node (o541 P) (.nil) (.nil)) (.nil)) (.node (o413 P) (.node (o669 P) (.nil) (.nil)) (.nil))) (.node (o221 P) (.node (o349 P) (.node (o605 P) (.nil) (.nil)) (.nil)) (.node (o477 P) (.nil) (.nil)))) (.node (o125 P) (.node (o189 P) (.node (o317 P) (.node (o573 P) (.nil) (.nil)) (.nil)) (.node (o445 P) (.nil) (.nil))) (.node (o253 P) (.node (o381 P) (.node (o637 P) (.nil) (.nil)) (.nil)) (.node (o509 P) (.nil) (.nil))))))))) (.node (o2v1 P) (.node (boot_o_4 P) (.node (boot_o_8 P) (.node (o16 P) (.node (o32 P) (.node (o64 P) (.node (o128 P) (.node (o256 P) (.node (o512 P) (.nil) (.nil)) (.nil)) (.node (o384 P) (.node (o640 P) (.nil) (.nil)) (.nil))) (.node (o192 P) (.node (o320 P) (.node (o576 P) (.nil) (.nil)) (.nil)) (.node (o448 P) (.nil) (.nil)))) (.node (o96 P) (.node (o160 P) (.node (o288 P) (.node (o544 P) (.nil) (.nil)) (.nil)) (.node (o416 P) (.node (o672 P) (.nil) (.nil)) (.nil))) (.node (o224 P) (.node (o352 P) (.node (o608 P) (.nil) (.nil)) (.nil)) (.node (o480 P) (.nil) (.nil))))) (.node (o48 P) (.node (o80 P) (.node (o144 P) (.node (o272 P) (.node (o528 P) (.nil) (.nil)) (.nil)) (.node (o400 P) (.node (o656 P) (.nil) (.nil)) (.nil))) (.node (o208 P) (.node (o336 P) (.node (o592 P) (.nil) (.nil)) (.nil)) (.node (o464 P) (.nil) (.nil)))) (.node (o112 P) (.node (o176 P) (.node (o304 P) (.node (o560 P) (.nil) (.nil)) (.nil)) (.node (o432 P) (.node (o688 P) (.nil) (.nil)) (.nil))) (.node (o240 P) (.node (o368 P) (.node (o624 P) (.nil) (.nil)) (.nil)) (.node (o496 P) (.nil) (.nil)))))) (.node (o24 P) (.node (o40 P) (.node (o72 P) (.node (o136 P) (.node (o264 P) (.node (o520 P) (.nil) (.nil)) (.nil)) (.node (o392 P) (.node (o648 P) (.nil) (.nil)) (.nil))) (.node (o200 P) (.node (o328 P) (.node (o584 P) (.nil) (.nil)) (.nil)) (.node (o456 P) (.nil) (.nil)))) (.node (o104 P) (.node (o168 P) (.node (o296 P) (.node (o552 P) (.nil) (.nil)) (.nil)) (.node (o424 P) (.node (o680 P) (.nil) (.nil)) (.nil))) (.node (o232 P) (.node (o360 P) (.node (o616 P) (.nil) (.nil)) (.nil)) (.node (o488 P) (.nil) (.nil))))) (.node (o56 P) (.node (o88 P) (.node (o152 P) (.node (o280 P) (.node (o536 P) (.nil) (.nil)) (.nil)) (.node (o408 P) (.node (o664 P) (.nil) (.nil)) (.nil))) (.node (o216 P) (.node (o344 P) (.node (o600 P) (.nil) (.nil)) (.nil)) (.node (o472 P) (.nil) (.nil)))) (.node (o120 P) (.node (o184 P) (.node (o312 P) (.node (o568 P) (.nil) (.nil)) (.nil)) (.node (o440 P) (.node (o696 P) (.nil) (.nil)) (.nil))) (.node (o248 P) (.node (o376 P) (.node (o632 P) (.nil) (.nil)) (.nil)) (.node (o504 P) (.nil) (.nil))))))) (.node (o12v11 P) (.node (o20 P) (.node (o36 P) (.node (o68 P) (.node (o132 P) (.node (o260 P) (.node (o516 P) (.nil) (.nil)) (.nil)) (.node (o388 P) (.node (o644 P) (.nil) (.nil)) (.nil))) (.node (o196 P) (.node (o324 P) (.node (o580 P) (.nil) (.nil)) (.nil)) (.node (o452 P) (.nil) (.nil)))) (.node (o100 P) (.node (o164 P) (.node (o292 P) (.node (o548 P) (.nil) (.nil)) (.nil)) (.node (o420 P) (.node (o676 P) (.nil) (.nil)) (.nil))) (.node (o228 P) (.node (o356 P) (.node (o612 P) (.nil) (.nil)) (.nil)) (.node (o484 P) (.nil) (.nil))))) (.node (o52 P) (.node (o84 P) (.node (o148 P) (.node (o276 P) (.node (o532 P) (.nil) (.nil)) (.nil)) (.node (o404 P) (.node (o660 P) (.nil) (.nil)) (.nil))) (.node (o212 P) (.node (o340 P) (.node (o596 P) (.nil) (.nil)) (.nil)) (.node (o468 P) (.nil) (.nil)))) (.node (o116 P) (.node (o180 P) (.node (o308 P) (.node (o564 P) (.nil) (.nil)) (.nil)) (.node (o436 P) (.node (o692 P) (.nil) (.nil)) (.nil))) (.node (o244 P) (.node (o372 P) (.node (o628 P) (.nil) (.nil)) (.nil)) (.node (o500 P) (.nil) (.nil)))))) (.node (o28 P) (.node (o44 P) (.node (o76 P) (.node (o140 P) (.node (o268 P) (.node (o524 P) (.nil) (.nil)) (.nil)) (.node (o396 P) (.node (o652 P) (.nil) (.nil)) (.nil))) (.node (o204 P) (.node (o332 P) (.node (o588 P) (.nil) (.nil)) (.nil)) (.node (o460 P) (.nil) (.nil)))) (.node (o108 P) (.node (o172 P) (.node (o300 P) (.node (o556 P) (.nil) (.nil)) (.nil)) (.node (o428 P) (.node (o684 P) (.nil) (.nil)) (.nil))) (.node (o236 P) (.node (o364 P) (.node (o620 P) (.nil) (.nil)) (.nil)) (.node (o492 P) (.nil) (.nil))))) (.node (o60 P) (.node (o92 P) (.node (o156 P) (.node (o284 P) (.node (o540 P) (.nil) (.nil)) (.nil)) (.node (o412 P) (.node (o668 P) (.nil) (.nil)) (.nil))) (.node (o220 P) (.node (o348 P) (.node (o604 P) (.nil) (.nil)) (.nil)) (.node (o476 P) (.nil) (.nil)))) (.node (o124 P) (.node (o188 P) (.node (o316 P) (.node (o572 P) (.nil) (.nil)) (.nil)) (.node (o444 P) (.nil) (.nil))) (.node (o252 P) (.node (o380 P) (.node (o636 P) (.nil) (.nil)) (.nil)) (.node (o508 P) (.nil) (.nil)))))))) (.node (boot_o_6 P) (.node (boot_o_10 P) (.node (o18 P) (.node (o34 P) (.node (o66 P) (.node (o130 P) (.node (o258 P) (.node (o514 P) (.nil) (.nil)) (.nil)) (.node (o386 P) (.node (o642 P) (.nil) (.nil)) (.nil))) (.node (o194 P) (.node (o322 P) (.node (o578 P) (.nil) (.nil)) (.nil)) (.node (o450 P) (.nil) (.nil)))) (.node (o98 P) (.node (o162 P) (.node (o290 P) (.node (o546 P) (.nil) (.nil)) (.nil)) (.node (o418 P) (.node (o674 P) (.nil) (.nil)) (.nil))) (.node (o226 P) (.node (o354 P) (.node (o610 P) (.nil) (.nil)) (.nil)) (.node (o482 P) (.nil) (.nil))))) (.node (o50 P) (.node (o82 P) (.node (o146 P) (.node (o274 P) (.node (o530 P) (.nil) (.nil)) (.nil)) (.node (o402 P) (.node (o658 P) (.nil) (.nil)) (.nil))) (.node (o210 P) (.node (o338 P) (.node (o594 P) (.nil) (.nil)) (.nil)) (.node (o466 P) (.nil) (.nil)))) (.node (o114 P) (.node (o178 P) (.node (o306 P) (.node (o562 P) (.nil) (.nil)) (.nil)) (.node (o434 P) (.node (o690 P) (.nil) (.nil)) (.nil))) (.node (o242 P) (.node (o370 P) (.node (o626 P) (.nil) (.nil)) (.nil)) (.node (o498 P) (.nil) (.nil)))))) (.node (o26 P) (.node (o42 P) (.node (o74 P) (.node (o138 P) (.node (o266 P) (.node (o522 P) (.nil) (.nil)) (.nil)) (.node (o394 P) (.node (o650 P) (.nil) (.nil)) (.nil))) (.node (o202 P) (.node (o330 P) (.node (o586 P) (.nil) (.nil)) (.nil)) (.node (o458 P) (.nil) (.nil)))) (.node (o106 P) (.node (o170 P) (.node (o298 P) (.node (o554 P) (.nil) (.nil)) (.nil)) (.node (o426 P) (.node (o682 P) (.nil) (.nil)) (.nil))) (.node (o234 P) (.node (o362 P) (.node (o618 P) (.nil) (.nil)) (.nil)) (.node (o490 P) (.nil) (.nil))))) (.node (o58 P) (.node (o90 P) (.node (o154 P) (.node (o282 P) (.node (o538 P) (.nil) (.nil)) (.nil)) (.node (o410 P) (.node (o666 P) (.nil) (.nil)) (.nil))) (.node (o218 P) (.node (o346 P) (.node (o602 P) (.nil) (.nil)) (.nil)) (.node (o474 P) (.nil) (.nil)))) (.node (o122 P) (.node (o186 P) (.node (o314 P) (.node (o570 P) (.nil) (.nil)) (.nil)) (.node (o442 P) (.nil) (.nil))) (.node (o250 P) (.node (o378 P) (.node (o634 P) (.nil) (.nil)) (.nil)) (.node (o506 P) (.nil) (.nil))))))) (.node (o14 P) (.node (o22 P) (.node (o38 P) (.node (o70 P) (.node (o134 P) (.node (o262 P) (.node (o518 P) (.nil) (.nil)) (.nil)) (.node (o390 P) (.node (o646 P) (.nil) (.nil)) (.nil))) (.node (o198 P) (.node (o326 P) (.node (o582 P) (.nil) (.nil)) (.nil)) (.node (o454 P) (.nil) (.nil)))) (.node (o102 P) (.node (o166 P) (.node (o294 P) (.node (o550 P) (.nil) (.nil)) (.nil)) (.node (o422 P) (.node (o678 P) (.nil) (.nil)) (.nil))) (.node (o230 P) (.node (o358 P) (.node (o614 P) (.nil) (.nil)) (.nil)) (.node (o486 P) (.nil) (.nil))))) (.node (o54 P) (.node (o86 P) (.node (o150 P) (.node (o278 P) (.node (o534 P) (.nil) (.nil)) (.nil)) (.node (o406 P) (.node (o662 P) (.nil) (.nil)) (.nil))) (.node (o214 P) (.node (o342 P) (.node (o598 P) (.nil) (.nil)) (.nil)) (.node (o470 P) (.nil) (.nil)))) (.node (o118 P) (.node (o182 P) (.node (o310 P) (.node (o566 P) (.nil) (.nil)) (.nil)) (.node (o438 P) (.node (o694 P) (.nil) (.nil)) (.nil))) (.node (o246 P) (.node (o374 P) (.node (o630 P) (.nil) (.nil)) (.nil)) (.node (o502 P) (.nil) (.nil)))))) (.node (o30 P) (.node (o46 P) (.node (o78 P) (.node (o142 P) (.node (o270 P) (.node (o526 P) (.nil) (.nil)) (.nil)) (.node (o398 P) (.node (o654 P) (.nil) (.nil)) (.nil))) (.node (o206 P) (.node (o334 P) (.node (o590 P) (.nil) (.nil)) (.nil)) (.node (o462 P) (.nil) (.nil)))) (.node (o110 P) (.node (o174 P) (.node (o302 P) (.node (o558 P) (.nil) (.nil)) (.nil)) (.node (o430 P) (.node (o686 P) (.nil) (.nil)) (.nil))) (.node (o238 P) (.node (o366 P) (.node (o622 P) (.nil) (.nil)) (.nil)) (.node (o494 P) (.nil) (.nil))))) (.node (o62 P) (.node (o94 P) (.node (o158 P) (.node (o286 P) (.node (o542 P) (.nil) (.nil)) (.nil)) (.node (o414 P) (.node (o670 P) (.nil) (.nil)) (.nil))) (.node (o222 P) (.node (o350 P) (.node (o606 P) (.nil) (.nil)) (.nil)) (.node (o478 P) (.nil) (.nil)))) (.node (o126 P) (.node (o190 P) (.node (o318 P) (.node (o574 P) (.nil) (.nil)) (.nil)) (.node (o446 P) (.nil) (.nil))) (.node (o254 P) (.node (o382 P) (.node (o638 P) (.nil) (.nil)) (.nil)) (.node (o510 P) (.nil) (.nil)))))))))
noncomputable def g10 : List Stmt := [st 80, st 81]
noncomputable abbrev S11 (w : World) (os : OsState) : SharedT := ⟨t11 w.params, 698, {}, #[], {}, 1175, os⟩
theorem pc10 (w : World) (os : OsState) : segRun treeTable PW w 11 an0 1 341 (S10 w os).abs (piecesOf g10 env0 cE ⟨508, 0, 543, 16⟩ fr0) = some (.next, (S11 w os).abs, cE, ⟨545, 0, 587, 19⟩) := by
  refine segRun_of ?_
  rewrite [TE_segRunT, TE_tree]
  kernel_rfl
noncomputable def o3v12 (P : Params) : Obj := ⟨.type "dict", none, .dict #[kE P "__name__" 165 (kS "law_nn0334_01" 1234), kE P "__doc__" 166 .none, kE P "__package__" 167 .none, kE P "__loader__" 168 (.builtin "__main__.__loader__#opaque"), kE P "__spec__" 169 .none, kE P "__annotations__" 170 (.ref 6), kE P "__builtins__" 171 (.ref 4), kE P "__file__" 173 (kS "/claim/cut.py" 172), kE P "__cached__" 174 .none, kE P "_wall" 193 (.ref 21), kE P "GateloomError" 231 (.ref 39), kE P "DesignError" 247 (.ref 52), kE P "mask" 256 (.ref 61), kE P "vec" 267 (.ref 69), kE P "zeros" 274 (.ref 76), kE P "all_x" 282 (.ref 83), kE P "all_z" 289 (.ref 90), kE P "from_int" 297 (.ref 97), kE P "is_known" 304 (.ref 104), kE P "to_int" 315 (.ref 111), kE P "code" 323 (.ref 118), kE P "slice_vec" 339 (.ref 125), kE P "put_slice" 355 (.ref 132), kE P "concat" 366 (.ref 139), kE P "extend" 379 (.ref 146), kE P "z_to_x" 386 (.ref 153), kE P "truth" 393 (.ref 160), kE P "add" 403 (.ref 167), kE P "sub" 411 (.ref 174), kE P "mul" 419 (.ref 181), kE P "neg" 426 (.ref 188), kE P "quotient" 435 (.ref 195), kE P "div" 446 (.ref 202), kE P "mod" 457 (.ref 209), kE P "raise_whole" 470 (.ref 216), kE P "power" 483 (.ref 223), kE P "shift_left" 493 (.ref 230), kE P "shift_right" 502 (.ref 237), kE P "shift_arith" 517 (.ref 244), kE P "ordered" 528 (.ref 251), kE P "less" 538 (.ref 258), kE P "less_equal" 548 (.ref 265), kE P "greater" 557 (.ref 272), kE P "greater_equal" 566 (.ref 279), kE P "one_bit" 575 (.ref 286), kE P "bit_not" 585 (.ref 293), kE P "bit_and" 599 (.ref 300), kE P "bit_or" 614 (.ref 307), kE P "bit_xor" 623 (.ref 314), kE P "bit_xnor" 631 (.ref 321), kE P "reduce_and" 641 (.ref 328), kE P "reduce_nand" 648 (.ref 335), kE P "reduce_or" 655 (.ref 342), kE P "reduce_nor" 662 (.ref 349), kE P "reduce_xor" 671 (.ref 356), kE P "reduce_xnor" 678 (.ref 363), kE P "logic_not" 685 (.ref 370), kE P "logic_and" 693 (.ref 377), kE P "logic_or" 701 (.ref 384), kE P "equal" 710 (.ref 391), kE P "not_equal" 718 (.ref 398), kE P "case_equal" 726 (.ref 405), kE P "case_not_equal" 734 (.ref 412), kE P "choose" 747 (.ref 419), kE P "unary" 757 (.ref 426), kE P "arithmetic" 767 (.ref 433), kE P "comparison" 777 (.ref 440), kE P "bitwise" 786 (.ref 447), kE P "binary" 797 (.ref 454), kE P "whole_of" 806 (.ref 461), kE P "memory_word" 816 (.ref 468), kE P "picked" 826 (.ref 475), kE P "conditional" 836 (.ref 482), kE P "bits_needed" 844 (.ref 489), kE P "system_value" 855 (.ref 496), kE P "evaluate" 861 (.ref 501), kE P "locate" 870 (.ref 508), kE P "holder_width" 878 (.ref 515), kE P "resolve_target" 897 (.ref 522), kE P "store_rows" 914 (.ref 529), kE P "net_kinds" 922 (.ref 536), kE P "Signal" 1007 (.ref 588), kE P "Design" 1106 (.ref 651), kE P "Store" 1174 (.ref 693), kE P "Context" 1233 (.ref 736), kE P "_law_row" 1246 (.ref 747), kE P "_law_next" 1253 (.ref 754)] 87, #[]⟩
noncomputable def o12v12 (P : Params) : Obj := ⟨.none, none, .fields #[.int 1 0, .int 0 0, .ref 20, .int 5 0, .int 0 0, .ref 27, .int 11 0, .int 0 0, .ref 48, .int 14 0, .int 0 0, .ref 60, .int 16 0, .int 0 0, .ref 68, .int 19 0, .int 0 0, .ref 75, .int 21 0, .int 0 0, .ref 82, .int 24 0, .int 0 0, .ref 89, .int 26 0, .int 0 0, .ref 96, .int 28 0, .int 0 0, .ref 103, .int 30 0, .int 0 0, .ref 110, .int 37 0, .int 0 0, .ref 117, .int 39 0, .int 0 0, .ref 124, .int 50 0, .int 0 0, .ref 131, .int 61 0, .int 0 0, .ref 138, .int 70 0, .int 0 0, .ref 145, .int 80 0, .int 0 0, .ref 152, .int 82 0, .int 0 0, .ref 159, .int 89 0, .int 0 0, .ref 166, .int 93 0, .int 0 0, .ref 173, .int 97 0, .int 0 0, .ref 180, .int 101 0, .int 0 0, .ref 187, .int 105 0, .int 0 0, .ref 194, .int 110 0, .int 0 0, .ref 201, .int 116 0, .int 0 0, .ref 208, .int 122 0, .int 0 0, .ref 215, .int 133 0, .int 0 0, .ref 222, .int 148 0, .int 0 0, .ref 229, .int 156 0, .int 0 0, .ref 236, .int 163 0, .int 0 0, .ref 243, .int 173 0, .int 0 0, .ref 250, .int 181 0, .int 0 0, .ref 257, .int 186 0, .int 0 0, .ref 264, .int 191 0, .int 0 0, .ref 271, .int 193 0, .int 0 0, .ref 278, .int 196 0, .int 0 0, .ref 285, .int 198 0, .int 0 0, .ref 292, .int 201 0, .int 0 0, .ref 299, .int 206 0, .int 0 0, .ref 306, .int 212 0, .int 0 0, .ref 313, .int 215 0, .int 0 0, .ref 320, .int 217 0, .int 0 0, .ref 327, .int 222 0, .int 0 0, .ref 334, .int 224 0, .int 0 0, .ref 341, .int 226 0, .int 0 0, .ref 348, .int 228 0, .int 0 0, .ref 355, .int 237 0, .int 0 0, .ref 362, .int 239 0, .int 0 0, .ref 369, .int 241 0, .int 0 0, .ref 376, .int 243 0, .int 0 0, .ref 383, .int 245 0, .int 0 0, .ref 390, .int 250 0, .int 0 0, .ref 397, .int 252 0, .int 0 0, .ref 404, .int 254 0, .int 0 0, .ref 411, .int 256 0, .int 0 0, .ref 418, .int 267 0, .int 0 0, .ref 425, .int 287 0, .int 0 0, .ref 432, .int 305 0, .int 0 0, .ref 439, .int 323 0, .int 0 0, .ref 446, .int 337 0, .int 0 0, .ref 453, .int 346 0, .int 0 0, .ref 460, .int 348 0, .int 0 0, .ref 467, .int 356 0, .int 0 0, .ref 474, .int 362 0, .int 0 0, .ref 481, .int 370 0, .int 0 0, .ref 488, .int 375 0, .int 0 0, .ref 495, .int 388 0, .int 0 0, .ref 500, .int 419 0, .int 0 0, .ref 507, .int 426 0, .int 0 0, .ref 514, .int 430 0, .int 0 0, .ref 521, .int 449 0, .int 0 0, .ref 528, .int 460 0, .int 0 0, .ref 535, .int 462 0, .int 0 0, .ref 542, .int 508 0, .int 0 0, .ref 598, .int 545 0, .int 0 0, .ref 661, .int 588 0, .int 0 0, .ref 703, .int 608 0, .int 0 0, .ref 746, .int 621 0, .int 0 0, .ref 753], #[]⟩
noncomputable def o698 (P : Params) : Obj := ⟨.type "tuple", none, .seq #[] 0, #[]⟩
noncomputable def o699 (P : Params) : Obj := ⟨.type "builtin_function_or_method", none, .fields #[.builtin "type.__prepare__", .type "type"], #[]⟩
noncomputable def o700 (P : Params) : Obj := ⟨.type "dict", none, .dict #[kE P "__module__" 1182 (kS "gateloom.store" 1107), kE P "__qualname__" 1184 (kS "Context" 1183), kE P "__firstlineno__" 1186 (.int 588 1185), kE P "__init__" 1197 (.ref 712), kE P "call" 1206 (.ref 719), kE P "next_random" 1214 (.ref 726), kE P "time_vec" 1222 (.ref 733), kE P "__static_attributes__" 1226 (.ref 734)] 8, #[]⟩
noncomputable def o701 (P : Params) : Obj := ⟨.type "tuple", none, .seq #[] 0, #[]⟩
noncomputable def o702 (P : Params) : Obj := ⟨.none, none, .fields #[.int 590 0, .int 4 0, .ref 711, .int 595 0, .int 4 0, .ref 718, .int 598 0, .int 4 0, .ref 725, .int 605 0, .int 4 0, .ref 732], #[]⟩
noncomputable def o703 (P : Params) : Obj := ⟨.type "code", none, .fields #[kS "Context" 1177, kS "Context" 1178, kS "/claim/cut.py" 1179, .int 588 0, .int 0 0, .int 0 0, .int 0 0, .int 0 0, .ref 701, .bool false, .int 181 0, .ref 702, .none, .none, .none, .none, .int 1180 0, .int 588 0, kS "/claim/cut.py" 1181], #[]⟩
noncomputable def o704 (P : Params) : Obj := ⟨.type "frame", none, .plain, #[(some (.ref 703)), (some (.ref 3)), (some (.ref 700)), none, (some (kS "gateloom.store" 1107)), none, (some (.ref 0))]⟩
noncomputable def o705 (P : Params) : Obj := ⟨.type "tuple", none, .seq #[.int 0 1187] 0, #[]⟩
noncomputable def o706 (P : Params) : Obj := ⟨.type "tuple", none, .seq #[] 0, #[]⟩
noncomputable def o707 (P : Params) : Obj := ⟨.none, none, .fields #[], #[]⟩
noncomputable def o708 (P : Params) : Obj := ⟨.type "tuple", none, .seq #[kS "self" 1191, kS "store" 1192, kS "frame" 1193, kS "now" 1194] 0, #[]⟩
noncomputable def o709 (P : Params) : Obj := ⟨.type "tuple", none, .seq #[] 0, #[]⟩
noncomputable def o710 (P : Params) : Obj := ⟨.none, none, fD (ms 82 0) (.ofString "Context.__init__") 0 [] .none .none .none .none none .none .none 0, #[]⟩
noncomputable def o711 (P : Params) : Obj := ⟨.type "code", none, .fields #[kS "__init__" 1188, kS "Context.__init__" 1189, kS "/claim/cut.py" 1190, .int 590 0, .int 4 0, .int 0 0, .int 0 0, .int 3 0, .ref 706, .bool true, .int 181 0, .ref 707, .none, .ref 708, .ref 709, .ref 710, .int 1195 0, .int 590 0, kS "/claim/cut.py" 1196], #[]⟩
noncomputable def o712 (P : Params) : Obj := ⟨.type "function", none, fD (ms 82 0) (.ofString "Context.__init__") 3 [] (.ref 705) .none .none (kS "gateloom.store" 1107) none (.ref 711) .none 0, #[]⟩
noncomputable def o713 (P : Params) : Obj := ⟨.type "tuple", none, .seq #[] 0, #[]⟩
noncomputable def o714 (P : Params) : Obj := ⟨.none, none, .fields #[], #[]⟩
noncomputable def o715 (P : Params) : Obj := ⟨.type "tuple", none, .seq #[kS "self" 1201, kS "number" 1202, kS "args" 1203] 0, #[]⟩
noncomputable def o716 (P : Params) : Obj := ⟨.type "tuple", none, .seq #[] 0, #[]⟩
noncomputable def o717 (P : Params) : Obj := ⟨.none, none, fD (ms 82 1) (.ofString "Context.call") 0 [] .none .none .none .none none .none .none 0, #[]⟩
noncomputable def o718 (P : Params) : Obj := ⟨.type "code", none, .fields #[kS "call" 1198, kS "Context.call" 1199, kS "/claim/cut.py" 1200, .int 595 0, .int 3 0, .int 0 0, .int 0 0, .int 3 0, .ref 713, .bool true, .int 181 0, .ref 714, .none, .ref 715, .ref 716, .ref 717, .int 1204 0, .int 595 0, kS "/claim/cut.py" 1205], #[]⟩
noncomputable def o719 (P : Params) : Obj := ⟨.type "function", none, fD (ms 82 1) (.ofString "Context.call") 3 [] .none .none .none (kS "gateloom.store" 1107) none (.ref 718) .none 0, #[]⟩
noncomputable def o720 (P : Params) : Obj := ⟨.type "tuple", none, .seq #[] 0, #[]⟩
noncomputable def o721 (P : Params) : Obj := ⟨.none, none, .fields #[], #[]⟩
noncomputable def o722 (P : Params) : Obj := ⟨.type "tuple", none, .seq #[kS "self" 1210, kS "seed" 1211] 0, #[]⟩
noncomputable def o723 (P : Params) : Obj := ⟨.type "tuple", none, .seq #[] 0, #[]⟩
noncomputable def o724 (P : Params) : Obj := ⟨.none, none, fD (ms 82 2) (.ofString "Context.next_random") 0 [] .none .none .none .none none .none .none 0, #[]⟩
noncomputable def o725 (P : Params) : Obj := ⟨.type "code", none, .fields #[kS "next_random" 1207, kS "Context.next_random" 1208, kS "/claim/cut.py" 1209, .int 598 0, .int 1 0, .int 0 0, .int 0 0, .int 3 0, .ref 720, .bool true, .int 181 0, .ref 721, .none, .ref 722, .ref 723, .ref 724, .int 1212 0, .int 598 0, kS "/claim/cut.py" 1213], #[]⟩
noncomputable def o726 (P : Params) : Obj := ⟨.type "function", none, fD (ms 82 2) (.ofString "Context.next_random") 3 [] .none .none .none (kS "gateloom.store" 1107) none (.ref 725) .none 0, #[]⟩
noncomputable def o727 (P : Params) : Obj := ⟨.type "tuple", none, .seq #[] 0, #[]⟩
noncomputable def o728 (P : Params) : Obj := ⟨.none, none, .fields #[], #[]⟩
noncomputable def o729 (P : Params) : Obj := ⟨.type "tuple", none, .seq #[kS "self" 1218, kS "width" 1219] 0, #[]⟩
noncomputable def o730 (P : Params) : Obj := ⟨.type "tuple", none, .seq #[] 0, #[]⟩
noncomputable def o731 (P : Params) : Obj := ⟨.none, none, fD (ms 82 3) (.ofString "Context.time_vec") 0 [] .none .none .none .none none .none .none 0, #[]⟩
noncomputable def o732 (P : Params) : Obj := ⟨.type "code", none, .fields #[kS "time_vec" 1215, kS "Context.time_vec" 1216, kS "/claim/cut.py" 1217, .int 605 0, .int 2 0, .int 0 0, .int 0 0, .int 3 0, .ref 727, .bool true, .int 181 0, .ref 728, .none, .ref 729, .ref 730, .ref 731, .int 1220 0, .int 605 0, kS "/claim/cut.py" 1221], #[]⟩
noncomputable def o733 (P : Params) : Obj := ⟨.type "function", none, fD (ms 82 3) (.ofString "Context.time_vec") 3 [] .none .none .none (kS "gateloom.store" 1107) none (.ref 732) .none 0, #[]⟩
noncomputable def o734 (P : Params) : Obj := ⟨.type "tuple", none, .seq #[kS "frame" 1223, kS "now" 1224, kS "store" 1225] 0, #[]⟩
noncomputable def o735 (P : Params) : Obj := ⟨.type "dict", none, .dict #[kE P "__module__" 1182 (kS "gateloom.store" 1107), kE P "__firstlineno__" 1186 (.int 588 1185), kE P "__init__" 1197 (.ref 712), kE P "call" 1206 (.ref 719), kE P "next_random" 1214 (.ref 726), kE P "time_vec" 1222 (.ref 733), kE P "__static_attributes__" 1226 (.ref 734), kE P "__dict__" 1228 (.ref 737), kE P "__weakref__" 1230 (.ref 738), kE P "__doc__" 1231 .none] 4, #[]⟩
noncomputable def o736 (P : Params) : Obj := ⟨.type "type", none, .cls ⟨(.ofString "Context"), [.type "object"], [.ref 736, .type "object"], 735, (.ofString "Context"), true, [], [], false, none, false⟩, #[none, none, (some (kS "Context" 1175)), (some (kS "Context" 1183)), (some (.builtin "object.__new__")), (some (.bool true))]⟩
noncomputable def o737 (P : Params) : Obj := ⟨.type "getset_descriptor", none, .fields #[kS "__dict__" 1227, .ref 736, .builtin "function.__dict__", .builtin "function.__dict__#set"], #[]⟩
noncomputable def o738 (P : Params) : Obj := ⟨.type "getset_descriptor", none, .fields #[kS "__weakref__" 1229, .ref 736, .builtin "ExceptionGroup.__weakref__", .none], #[]⟩
noncomputable def o739 (P : Params) : Obj := ⟨.type "super", none, .fields #[.ref 736, .ref 736, .ref 736], #[]⟩
noncomputable def o740 (P : Params) : Obj := ⟨.type "builtin_function_or_method", none, .fields #[.builtin "object.__init_subclass__", .ref 736], #[]⟩
noncomputable def o741 (P : Params) : Obj := ⟨.type "tuple", none, .seq #[] 0, #[]⟩
noncomputable def o742 (P : Params) : Obj := ⟨.none, none, .fields #[], #[]⟩
noncomputable def o743 (P : Params) : Obj := ⟨.type "tuple", none, .seq #[kS "script" 1239, kS "row" 1240, kS "cell" 1241, kS "number" 1242, kS "turn" 1243] 0, #[]⟩
noncomputable def o744 (P : Params) : Obj := ⟨.type "tuple", none, .seq #[] 0, #[]⟩
noncomputable def o745 (P : Params) : Obj := ⟨.none, none, fD (st 84) (.ofString "_law_row") 0 [] .none .none .none .none none .none .none 0, #[]⟩
noncomputable def o746 (P : Params) : Obj := ⟨.type "code", none, .fields #[kS "_law_row" 1236, kS "_law_row" 1237, kS "/claim/cut.py" 1238, .int 608 0, .int 1 0, .int 0 0, .int 0 0, .int 3 0, .ref 741, .bool true, .int 181 0, .ref 742, .none, .ref 743, .ref 744, .ref 745, .int 1244 0, .int 608 0, kS "/claim/cut.py" 1245], #[]⟩
noncomputable def o747 (P : Params) : Obj := ⟨.type "function", none, fD (st 84) (.ofString "_law_row") 3 [] .none .none .none (kS "law_nn0334_01" 1234) none (.ref 746) .none 0, #[]⟩
noncomputable def o748 (P : Params) : Obj := ⟨.type "tuple", none, .seq #[] 0, #[]⟩
noncomputable def o749 (P : Params) : Obj := ⟨.none, none, .fields #[], #[]⟩
noncomputable def o750 (P : Params) : Obj := ⟨.type "tuple", none, .seq #[kS "row" 1250] 0, #[]⟩
noncomputable def o751 (P : Params) : Obj := ⟨.type "tuple", none, .seq #[] 0, #[]⟩
noncomputable def o752 (P : Params) : Obj := ⟨.none, none, fD (st 85) (.ofString "_law_next") 0 [] .none .none .none .none none .none .none 0, #[]⟩
noncomputable def o753 (P : Params) : Obj := ⟨.type "code", none, .fields #[kS "_law_next" 1247, kS "_law_next" 1248, kS "/claim/cut.py" 1249, .int 621 0, .int 1 0, .int 0 0, .int 0 0, .int 3 0, .ref 748, .bool true, .int 181 0, .ref 749, .none, .ref 750, .ref 751, .ref 752, .int 1251 0, .int 621 0, kS "/claim/cut.py" 1252], #[]⟩
noncomputable def o754 (P : Params) : Obj := ⟨.type "function", none, fD (st 85) (.ofString "_law_next") 3 [] .none .none .none (kS "law_nn0334_01" 1234) none (.ref 753) .none 0, #[]⟩
noncomputable def t12 (P : Params) : BT := .node (boot_o_0 P) (.node (boot_o_1 P) (.node (o3v12 P) (.node (boot_o_7 P) (.node (o15 P) (.node (o31 P) (.node (o63 P) (.node (o127 P) (.node (o255 P) (.node (o511 P) (.nil) (.nil)) (.nil)) (.node (o383 P) (.node (o639 P) (.nil) (.nil)) (.nil))) (.node (o191 P) (.node (o319 P) (.node (o575 P) (.nil) (.nil)) (.nil)) (.node (o447 P) (.node (o703 P) (.nil) (.nil)) (.nil)))) (.node (o95 P) (.node (o159 P) (.node (o287 P) (.node (o543 P) (.nil) (.nil)) (.nil)) (.node (o415 P) (.node (o671 P) (.nil) (.nil)) (.nil))) (.node (o223 P) (.node (o351 P) (.node (o607 P) (.nil) (.nil)) (.nil)) (.node (o479 P) (.node (o735 P) (.nil) (.nil)) (.nil))))) (.node (o47 P) (.node (o79 P) (.node (o143 P) (.node (o271 P) (.node (o527 P) (.nil) (.nil)) (.nil)) (.node (o399 P) (.node (o655 P) (.nil) (.nil)) (.nil))) (.node (o207 P) (.node (o335 P) (.node (o591 P) (.nil) (.nil)) (.nil)) (.node (o463 P) (.node (o719 P) (.nil) (.nil)) (.nil)))) (.node (o111 P) (.node (o175 P) (.node (o303 P) (.node (o559 P) (.nil) (.nil)) (.nil)) (.node (o431 P) (.node (o687 P) (.nil) (.nil)) (.nil))) (.node (o239 P) (.node (o367 P) (.node (o623 P) (.nil) (.nil)) (.nil)) (.node (o495 P) (.node (o751 P) (.nil) (.nil)) (.nil)))))) (.node (o23 P) (.node (o39v1 P) (.node (o71 P) (.node (o135 P) (.node (o263 P) (.node (o519 P) (.nil) (.nil)) (.nil)) (.node (o391 P) (.node (o647 P) (.nil) (.nil)) (.nil))) (.node (o199 P) (.node (o327 P) (.node (o583 P) (.nil) (.nil)) (.nil)) (.node (o455 P) (.node (o711 P) (.nil) (.nil)) (.nil)))) (.node (o103 P) (.node (o167 P) (.node (o295 P) (.node (o551 P) (.nil) (.nil)) (.nil)) (.node (o423 P) (.node (o679 P) (.nil) (.nil)) (.nil))) (.node (o231 P) (.node (o359 P) (.node (o615 P) (.nil) (.nil)) (.nil)) (.node (o487 P) (.node (o743 P) (.nil) (.nil)) (.nil))))) (.node (o55 P) (.node (o87 P) (.node (o151 P) (.node (o279 P) (.node (o535 P) (.nil) (.nil)) (.nil)) (.node (o407 P) (.node (o663 P) (.nil) (.nil)) (.nil))) (.node (o215 P) (.node (o343 P) (.node (o599 P) (.nil) (.nil)) (.nil)) (.node (o471 P) (.node (o727 P) (.nil) (.nil)) (.nil)))) (.node (o119 P) (.node (o183 P) (.node (o311 P) (.node (o567 P) (.nil) (.nil)) (.nil)) (.node (o439 P) (.node (o695 P) (.nil) (.nil)) (.nil))) (.node (o247 P) (.node (o375 P) (.node (o631 P) (.nil) (.nil)) (.nil)) (.node (o503 P) (.nil) (.nil))))))) (.node (o11 P) (.node (o19 P) (.node (o35 P) (.node (o67 P) (.node (o131 P) (.node (o259 P) (.node (o515 P) (.nil) (.nil)) (.nil)) (.node (o387 P) (.node (o643 P) (.nil) (.nil)) (.nil))) (.node (o195 P) (.node (o323 P) (.node (o579 P) (.nil) (.nil)) (.nil)) (.node (o451 P) (.node (o707 P) (.nil) (.nil)) (.nil)))) (.node (o99 P) (.node (o163 P) (.node (o291 P) (.node (o547 P) (.nil) (.nil)) (.nil)) (.node (o419 P) (.node (o675 P) (.nil) (.nil)) (.nil))) (.node (o227 P) (.node (o355 P) (.node (o611 P) (.nil) (.nil)) (.nil)) (.node (o483 P) (.node (o739 P) (.nil) (.nil)) (.nil))))) (.node (o51 P) (.node (o83 P) (.node (o147 P) (.node (o275 P) (.node (o531 P) (.nil) (.nil)) (.nil)) (.node (o403 P) (.node (o659 P) (.nil) (.nil)) (.nil))) (.node (o211 P) (.node (o339 P) (.node (o595 P) (.nil) (.nil)) (.nil)) (.node (o467 P) (.node (o723 P) (.nil) (.nil)) (.nil)))) (.node (o115 P) (.node (o179 P) (.node (o307 P) (.node (o563 P) (.nil) (.nil)) (.nil)) (.node (o435 P) (.node (o691 P) (.nil) (.nil)) (.nil))) (.node (o243 P) (.node (o371 P) (.node (o627 P) (.nil) (.nil)) (.nil)) (.node (o499 P) (.nil) (.nil)))))) (.node (o27 P) (.node (o43 P) (.node (o75 P) (.node (o139 P) (.node (o267 P) (.node (o523 P) (.nil) (.nil)) (.nil)) (.node (o395 P) (.node (o651 P) (.nil) (.nil)) (.nil))) (.node (o203 P) (.node (o331 P) (.node (o587 P) (.nil) (.nil)) (.nil)) (.node (o459 P) (.node (o715 P) (.nil) (.nil)) (.nil)))) (.node (o107 P) (.node (o171 P) (.node (o299 P) (.node (o555 P) (.nil) (.nil)) (.nil)) (.node (o427 P) (.node (o683 P) (.nil) (.nil)) (.nil))) (.node (o235 P) (.node (o363 P) (.node (o619 P) (.nil) (.nil)) (.nil)) (.node (o491 P) (.node (o747 P) (.nil) (.nil)) (.nil))))) (.node (o59 P) (.node (o91 P) (.node (o155 P) (.node (o283 P) (.node (o539 P) (.nil) (.nil)) (.nil)) (.node (o411 P) (.node (o667 P) (.nil) (.nil)) (.nil))) (.node (o219 P) (.node (o347 P) (.node (o603 P) (.nil) (.nil)) (.nil)) (.node (o475 P) (.node (o731 P) (.nil) (.nil)) (.nil)))) (.node (o123 P) (.node (o187 P) (.node (o315 P) (.node (o571 P) (.nil) (.nil)) (.nil)) (.node (o443 P) (.node (o699 P) (.nil) (.nil)) (.nil))) (.node (o251 P) (.node (o379 P) (.node (o635 P) (.nil) (.nil)) (.nil)) (.node (o507 P) (.nil) (.nil)))))))) (.node (boot_o_5 P) (.node (boot_o_9 P) (.node (o17 P) (.node (o33 P) (.node (o65 P) (.node (o129 P) (.node (o257 P) (.node (o513 P) (.nil) (.nil)) (.nil)) (.node (o385 P) (.node (o641 P) (.nil) (.nil)) (.nil))) (.node (o193 P) (.node (o321 P) (.node (o577 P) (.nil) (.nil)) (.nil)) (.node (o449 P) (.node (o705 P) (.nil) (.nil)) (.nil)))) (.node (o97 P) (.node (o161 P) (.node (o289 P) (.node (o545 P) (.nil) (.nil)) (.nil)) (.node (o417 P) (.node (o673 P) (.nil) (.nil)) (.nil))) (.node (o225 P) (.node (o353 P) (.node (o609 P) (.nil) (.nil)) (.nil)) (.node (o481 P) (.node (o737 P) (.nil) (.nil)) (.nil))))) (.node (o49 P) (.node (o81 P) (.node (o145 P) (.node (o273 P) (.node (o529 P) (.nil) (.nil)) (.nil)) (.node (o401 P) (.node (o657 P) (.nil) (.nil)) (.nil))) (.node (o209 P) (.node (o337 P) (.node (o593 P) (.nil) (.nil)) (.nil)) (.node (o465 P) (.node (o721 P) (.nil) (.nil)) (.nil)))) (.node (o113 P) (.node (o177 P) (.node (o305 P) (.node (o561 P) (.nil) (.nil)) (.nil)) (.node (o433 P) (.node (o689 P) (.nil) (.nil)) (.nil))) (.node (o241 P) (.node (o369 P) (.node (o625 P) (.nil) (.nil)) (.nil)) (.node (o497 P) (.node (o753 P) (.nil) (.nil)) (.nil)))))) (.node (o25 P) (.node (o41 P) (.node (o73 P) (.node (o137 P) (.node (o265 P) (.node (o521 P) (.nil) (.nil)) (.nil)) (.node (o393 P) (.node (o649 P) (.nil) (.nil)) (.nil))) (.node (o201 P) (.node (o329 P) (.node (o585 P) (.nil) (.nil)) (.nil)) (.node (o457 P) (.node (o713 P) (.nil) (.nil)) (.nil)))) (.node (o105 P) (.node (o169 P) (.node (o297 P) (.node (o553 P) (.nil) (.nil)) (.nil)) (.node (o425 P) (.node (o681 P) (.nil) (.nil)) (.nil))) (.node (o233 P) (.node (o361 P) (.node (o617 P) (.nil) (.nil)) (.nil)) (.node (o489 P) (.node (o745 P) (.nil) (.nil)) (.nil))))) (.node (o57 P) (.node (o89 P) (.node (o153 P) (.node (o281 P) (.node (o537 P) (.nil) (.nil)) (.nil)) (.node (o409 P) (.node (o665 P) (.nil) (.nil)) (.nil))) (.node (o217 P) (.node (o345 P) (.node (o601 P) (.nil) (.nil)) (.nil)) (.node (o473 P) (.node (o729 P) (.nil) (.nil)) (.nil)))) (.node (o121 P) (.node (o185 P) (.node (o313 P) (.node (o569 P) (.nil) (.nil)) (.nil)) (.node (o441 P) (.node (o697 P) (.nil) (.nil)) (.nil))) (.node (o249 P) (.node (o377 P) (.node (o633 P) (.nil) (.nil)) (.nil)) (.node (o505 P) (.nil) (.nil))))))) (.node (o13 P) (.node (o21 P) (.node (o37 P) (.node (o69 P) (.node (o133 P) (.node (o261 P) (.node (o517 P) (.nil) (.nil)) (.nil)) (.node (o389 P) (.node (o645 P) (.nil) (.nil)) (.nil))) (.node (o197 P) (.node (o325 P) (.node (o581 P) (.nil) (.nil)) (.nil)) (.node (o453 P) (.node (o709 P) (.nil) (.nil)) (.nil)))) (.node (o101 P) (.node (o165 P) (.node (o293 P) (.node (o549 P) (.nil) (.nil)) (.nil)) (.node (o421 P) (.node (o677 P) (.nil) (.nil)) (.nil))) (.node (o229 P) (.node (o357 P) (.node (o613 P) (.nil) (.nil)) (.nil)) (.node (o485 P) (.node (o741 P) (.nil) (.nil)) (.nil))))) (.node (o53 P) (.node (o85 P) (.node (o149 P) (.node (o277 P) (.node (o533 P) (.nil) (.nil)) (.nil)) (.node (o405 P) (.node (o661 P) (.nil) (.nil)) (.nil))) (.node (o213 P) (.node (o341 P) (.node (o597 P) (.nil) (.nil)) (.nil)) (.node (o469 P) (.node (o725 P) (.nil) (.nil)) (.nil)))) (.node (o117 P) (.node (o181 P) (.node (o309 P) (.node (o565 P) (.nil) (.nil)) (.nil)) (.node (o437 P) (.node (o693 P) (.nil) (.nil)) (.nil))) (.node (o245 P) (.node (o373 P) (.node (o629 P) (.nil) (.nil)) (.nil)) (.node (o501 P) (.nil) (.nil)))))) (.node (o29 P) (.node (o45 P) (.node (o77 P) (.node (o141 P) (.node (o269 P) (.node (o525 P) (.nil) (.nil)) (.nil)) (.node (o397 P) (.node (o653 P) (.nil) (.nil)) (.nil))) (.node (o205 P) (.node (o333 P) (.node (o589 P) (.nil) (.nil)) (.nil)) (.node (o461 P) (.node (o717 P) (.nil) (.nil)) (.nil)))) (.node (o109 P) (.node (o173 P) (.node (o301 P) (.node (o557 P) (.nil) (.nil)) (.nil)) (.node (o429 P) (.node (o685 P) (.nil) (.nil)) (.nil))) (.node (o237 P) (.node (o365 P) (.node (o621 P) (.nil) (.nil)) (.nil)) (.node (o493 P) (.node (o749 P) (.nil) (.nil)) (.nil))))) (.node (o61 P) (.node (o93 P) (.node (o157 P) (.node (o285 P) (.node (o541 P) (.nil) (.nil)) (.nil)) (.node (o413 P) (.node (o669 P) (.nil) (.nil)) (.nil))) (.node (o221 P) (.node (o349 P) (.node (o605 P) (.nil) (.nil)) (.nil)) (.node (o477 P) (.node (o733 P) (.nil) (.nil)) (.nil)))) (.node (o125 P) (.node (o189 P) (.node (o317 P) (.node (o573 P) (.nil) (.nil)) (.nil)) (.node (o445 P) (.node (o701 P) (.nil) (.nil)) (.nil))) (.node (o253 P) (.node (o381 P) (.node (o637 P) (.nil) (.nil)) (.nil)) (.node (o509 P) (.nil) (.nil))))))))) (.node (o2v1 P) (.node (boot_o_4 P) (.node (boot_o_8 P) (.node (o16 P) (.node (o32 P) (.node (o64 P) (.node (o128 P) (.node (o256 P) (.node (o512 P) (.nil) (.nil)) (.nil)) (.node (o384 P) (.node (o640 P) (.nil) (.nil)) (.nil))) (.node (o192 P) (.node (o320 P) (.node (o576 P) (.nil) (.nil)) (.nil)) (.node (o448 P) (.node (o704 P) (.nil) (.nil)) (.nil)))) (.node (o96 P) (.node (o160 P) (.node (o288 P) (.node (o544 P) (.nil) (.nil)) (.nil)) (.node (o416 P) (.node (o672 P) (.nil) (.nil)) (.nil))) (.node (o224 P) (.node (o352 P) (.node (o608 P) (.nil) (.nil)) (.nil)) (.node (o480 P) (.node (o736 P) (.nil) (.nil)) (.nil))))) (.node (o48 P) (.node (o80 P) (.node (o144 P) (.node (o272 P) (.node (o528 P) (.nil) (.nil)) (.nil)) (.node (o400 P) (.node (o656 P) (.nil) (.nil)) (.nil))) (.node (o208 P) (.node (o336 P) (.node (o592 P) (.nil) (.nil)) (.nil)) (.node (o464 P) (.node (o720 P) (.nil) (.nil)) (.nil)))) (.node (o112 P) (.node (o176 P) (.node (o304 P) (.node (o560 P) (.nil) (.nil)) (.nil)) (.node (o432 P) (.node (o688 P) (.nil) (.nil)) (.nil))) (.node (o240 P) (.node (o368 P) (.node (o624 P) (.nil) (.nil)) (.nil)) (.node (o496 P) (.node (o752 P) (.nil) (.nil)) (.nil)))))) (.node (o24 P) (.node (o40 P) (.node (o72 P) (.node (o136 P) (.node (o264 P) (.node (o520 P) (.nil) (.nil)) (.nil)) (.node (o392 P) (.node (o648 P) (.nil) (.nil)) (.nil))) (.node (o200 P) (.node (o328 P) (.node (o584 P) (.nil) (.nil)) (.nil)) (.node (o456 P) (.node (o712 P) (.nil) (.nil)) (.nil)))) (.node (o104 P) (.node (o168 P) (.node (o296 P) (.node (o552 P) (.nil) (.nil)) (.nil)) (.node (o424 P) (.node (o680 P) (.nil) (.nil)) (.nil))) (.node (o232 P) (.node (o360 P) (.node (o616 P) (.nil) (.nil)) (.nil)) (.node (o488 P) (.node (o744 P) (.nil) (.nil)) (.nil))))) (.node (o56 P) (.node (o88 P) (.node (o152 P) (.node (o280 P) (.node (o536 P) (.nil) (.nil)) (.nil)) (.node (o408 P) (.node (o664 P) (.nil) (.nil)) (.nil))) (.node (o216 P) (.node (o344 P) (.node (o600 P) (.nil) (.nil)) (.nil)) (.node (o472 P) (.node (o728 P) (.nil) (.nil)) (.nil)))) (.node (o120 P) (.node (o184 P) (.node (o312 P) (.node (o568 P) (.nil) (.nil)) (.nil)) (.node (o440 P) (.node (o696 P) (.nil) (.nil)) (.nil))) (.node (o248 P) (.node (o376 P) (.node (o632 P) (.nil) (.nil)) (.nil)) (.node (o504 P) (.nil) (.nil))))))) (.node (o12v12 P) (.node (o20 P) (.node (o36 P) (.node (o68 P) (.node (o132 P) (.node (o260 P) (.node (o516 P) (.nil) (.nil)) (.nil)) (.node (o388 P) (.node (o644 P) (.nil) (.nil)) (.nil))) (.node (o196 P) (.node (o324 P) (.node (o580 P) (.nil) (.nil)) (.nil)) (.node (o452 P) (.node (o708 P) (.nil) (.nil)) (.nil)))) (.node (o100 P) (.node (o164 P) (.node (o292 P) (.node (o548 P) (.nil) (.nil)) (.nil)) (.node (o420 P) (.node (o676 P) (.nil) (.nil)) (.nil))) (.node (o228 P) (.node (o356 P) (.node (o612 P) (.nil) (.nil)) (.nil)) (.node (o484 P) (.node (o740 P) (.nil) (.nil)) (.nil))))) (.node (o52 P) (.node (o84 P) (.node (o148 P) (.node (o276 P) (.node (o532 P) (.nil) (.nil)) (.nil)) (.node (o404 P) (.node (o660 P) (.nil) (.nil)) (.nil))) (.node (o212 P) (.node (o340 P) (.node (o596 P) (.nil) (.nil)) (.nil)) (.node (o468 P) (.node (o724 P) (.nil) (.nil)) (.nil)))) (.node (o116 P) (.node (o180 P) (.node (o308 P) (.node (o564 P) (.nil) (.nil)) (.nil)) (.node (o436 P) (.node (o692 P) (.nil) (.nil)) (.nil))) (.node (o244 P) (.node (o372 P) (.node (o628 P) (.nil) (.nil)) (.nil)) (.node (o500 P) (.nil) (.nil)))))) (.node (o28 P) (.node (o44 P) (.node (o76 P) (.node (o140 P) (.node (o268 P) (.node (o524 P) (.nil) (.nil)) (.nil)) (.node (o396 P) (.node (o652 P) (.nil) (.nil)) (.nil))) (.node (o204 P) (.node (o332 P) (.node (o588 P) (.nil) (.nil)) (.nil)) (.node (o460 P) (.node (o716 P) (.nil) (.nil)) (.nil)))) (.node (o108 P) (.node (o172 P) (.node (o300 P) (.node (o556 P) (.nil) (.nil)) (.nil)) (.node (o428 P) (.node (o684 P) (.nil) (.nil)) (.nil))) (.node (o236 P) (.node (o364 P) (.node (o620 P) (.nil) (.nil)) (.nil)) (.node (o492 P) (.node (o748 P) (.nil) (.nil)) (.nil))))) (.node (o60 P) (.node (o92 P) (.node (o156 P) (.node (o284 P) (.node (o540 P) (.nil) (.nil)) (.nil)) (.node (o412 P) (.node (o668 P) (.nil) (.nil)) (.nil))) (.node (o220 P) (.node (o348 P) (.node (o604 P) (.nil) (.nil)) (.nil)) (.node (o476 P) (.node (o732 P) (.nil) (.nil)) (.nil)))) (.node (o124 P) (.node (o188 P) (.node (o316 P) (.node (o572 P) (.nil) (.nil)) (.nil)) (.node (o444 P) (.node (o700 P) (.nil) (.nil)) (.nil))) (.node (o252 P) (.node (o380 P) (.node (o636 P) (.nil) (.nil)) (.nil)) (.node (o508 P) (.nil) (.nil)))))))) (.node (boot_o_6 P) (.node (boot_o_10 P) (.node (o18 P) (.node (o34 P) (.node (o66 P) (.node (o130 P) (.node (o258 P) (.node (o514 P) (.nil) (.nil)) (.nil)) (.node (o386 P) (.node (o642 P) (.nil) (.nil)) (.nil))) (.node (o194 P) (.node (o322 P) (.node (o578 P) (.nil) (.nil)) (.nil)) (.node (o450 P) (.node (o706 P) (.nil) (.nil)) (.nil)))) (.node (o98 P) (.node (o162 P) (.node (o290 P) (.node (o546 P) (.nil) (.nil)) (.nil)) (.node (o418 P) (.node (o674 P) (.nil) (.nil)) (.nil))) (.node (o226 P) (.node (o354 P) (.node (o610 P) (.nil) (.nil)) (.nil)) (.node (o482 P) (.node (o738 P) (.nil) (.nil)) (.nil))))) (.node (o50 P) (.node (o82 P) (.node (o146 P) (.node (o274 P) (.node (o530 P) (.nil) (.nil)) (.nil)) (.node (o402 P) (.node (o658 P) (.nil) (.nil)) (.nil))) (.node (o210 P) (.node (o338 P) (.node (o594 P) (.nil) (.nil)) (.nil)) (.node (o466 P) (.node (o722 P) (.nil) (.nil)) (.nil)))) (.node (o114 P) (.node (o178 P) (.node (o306 P) (.node (o562 P) (.nil) (.nil)) (.nil)) (.node (o434 P) (.node (o690 P) (.nil) (.nil)) (.nil))) (.node (o242 P) (.node (o370 P) (.node (o626 P) (.nil) (.nil)) (.nil)) (.node (o498 P) (.node (o754 P) (.nil) (.nil)) (.nil)))))) (.node (o26 P) (.node (o42 P) (.node (o74 P) (.node (o138 P) (.node (o266 P) (.node (o522 P) (.nil) (.nil)) (.nil)) (.node (o394 P) (.node (o650 P) (.nil) (.nil)) (.nil))) (.node (o202 P) (.node (o330 P) (.node (o586 P) (.nil) (.nil)) (.nil)) (.node (o458 P) (.node (o714 P) (.nil) (.nil)) (.nil)))) (.node (o106 P) (.node (o170 P) (.node (o298 P) (.node (o554 P) (.nil) (.nil)) (.nil)) (.node (o426 P) (.node (o682 P) (.nil) (.nil)) (.nil))) (.node (o234 P) (.node (o362 P) (.node (o618 P) (.nil) (.nil)) (.nil)) (.node (o490 P) (.node (o746 P) (.nil) (.nil)) (.nil))))) (.node (o58 P) (.node (o90 P) (.node (o154 P) (.node (o282 P) (.node (o538 P) (.nil) (.nil)) (.nil)) (.node (o410 P) (.node (o666 P) (.nil) (.nil)) (.nil))) (.node (o218 P) (.node (o346 P) (.node (o602 P) (.nil) (.nil)) (.nil)) (.node (o474 P) (.node (o730 P) (.nil) (.nil)) (.nil)))) (.node (o122 P) (.node (o186 P) (.node (o314 P) (.node (o570 P) (.nil) (.nil)) (.nil)) (.node (o442 P) (.node (o698 P) (.nil) (.nil)) (.nil))) (.node (o250 P) (.node (o378 P) (.node (o634 P) (.nil) (.nil)) (.nil)) (.node (o506 P) (.nil) (.nil))))))) (.node (o14 P) (.node (o22 P) (.node (o38 P) (.node (o70 P) (.node (o134 P) (.node (o262 P) (.node (o518 P) (.nil) (.nil)) (.nil)) (.node (o390 P) (.node (o646 P) (.nil) (.nil)) (.nil))) (.node (o198 P) (.node (o326 P) (.node (o582 P) (.nil) (.nil)) (.nil)) (.node (o454 P) (.node (o710 P) (.nil) (.nil)) (.nil)))) (.node (o102 P) (.node (o166 P) (.node (o294 P) (.node (o550 P) (.nil) (.nil)) (.nil)) (.node (o422 P) (.node (o678 P) (.nil) (.nil)) (.nil))) (.node (o230 P) (.node (o358 P) (.node (o614 P) (.nil) (.nil)) (.nil)) (.node (o486 P) (.node (o742 P) (.nil) (.nil)) (.nil))))) (.node (o54 P) (.node (o86 P) (.node (o150 P) (.node (o278 P) (.node (o534 P) (.nil) (.nil)) (.nil)) (.node (o406 P) (.node (o662 P) (.nil) (.nil)) (.nil))) (.node (o214 P) (.node (o342 P) (.node (o598 P) (.nil) (.nil)) (.nil)) (.node (o470 P) (.node (o726 P) (.nil) (.nil)) (.nil)))) (.node (o118 P) (.node (o182 P) (.node (o310 P) (.node (o566 P) (.nil) (.nil)) (.nil)) (.node (o438 P) (.node (o694 P) (.nil) (.nil)) (.nil))) (.node (o246 P) (.node (o374 P) (.node (o630 P) (.nil) (.nil)) (.nil)) (.node (o502 P) (.nil) (.nil)))))) (.node (o30 P) (.node (o46 P) (.node (o78 P) (.node (o142 P) (.node (o270 P) (.node (o526 P) (.nil) (.nil)) (.nil)) (.node (o398 P) (.node (o654 P) (.nil) (.nil)) (.nil))) (.node (o206 P) (.node (o334 P) (.node (o590 P) (.nil) (.nil)) (.nil)) (.node (o462 P) (.node (o718 P) (.nil) (.nil)) (.nil)))) (.node (o110 P) (.node (o174 P) (.node (o302 P) (.node (o558 P) (.nil) (.nil)) (.nil)) (.node (o430 P) (.node (o686 P) (.nil) (.nil)) (.nil))) (.node (o238 P) (.node (o366 P) (.node (o622 P) (.nil) (.nil)) (.nil)) (.node (o494 P) (.node (o750 P) (.nil) (.nil)) (.nil))))) (.node (o62 P) (.node (o94 P) (.node (o158 P) (.node (o286 P) (.node (o542 P) (.nil) (.nil)) (.nil)) (.node (o414 P) (.node (o670 P) (.nil) (.nil)) (.nil))) (.node (o222 P) (.node (o350 P) (.node (o606 P) (.nil) (.nil)) (.nil)) (.node (o478 P) (.node (o734 P) (.nil) (.nil)) (.nil)))) (.node (o126 P) (.node (o190 P) (.node (o318 P) (.node (o574 P) (.nil) (.nil)) (.nil)) (.node (o446 P) (.node (o702 P) (.nil) (.nil)) (.nil))) (.node (o254 P) (.node (o382 P) (.node (o638 P) (.nil) (.nil)) (.nil)) (.node (o510 P) (.nil) (.nil)))))))))
noncomputable def g11 : List Stmt := [st 82, st 83, st 84, st 85]
noncomputable abbrev S12 (w : World) (os : OsState) : SharedT := ⟨t12 w.params, 755, {}, #[], {}, 1254, os⟩
theorem pc11 (w : World) (os : OsState) : segRun treeTable PW w 11 an0 1 397 (S11 w os).abs (piecesOf g11 env0 cE ⟨545, 0, 587, 19⟩ fr0) = some (.next, (S12 w os).abs, cE, ⟨621, 0, 622, 40⟩) := by
  refine segRun_of ?_
  rewrite [TE_segRunT, TE_tree]
  kernel_rfl
noncomputable def o3v13 (P : Params) : Obj := ⟨.type "dict", none, .dict #[kE P "__name__" 165 (kS "law_nn0334_01" 1234), kE P "__doc__" 166 .none, kE P "__package__" 167 .none, kE P "__loader__" 168 (.builtin "__main__.__loader__#opaque"), kE P "__spec__" 169 .none, kE P "__annotations__" 170 (.ref 6), kE P "__builtins__" 171 (.ref 4), kE P "__file__" 173 (kS "/claim/cut.py" 172), kE P "__cached__" 174 .none, kE P "_wall" 193 (.ref 21), kE P "GateloomError" 231 (.ref 39), kE P "DesignError" 247 (.ref 52), kE P "mask" 256 (.ref 61), kE P "vec" 267 (.ref 69), kE P "zeros" 274 (.ref 76), kE P "all_x" 282 (.ref 83), kE P "all_z" 289 (.ref 90), kE P "from_int" 297 (.ref 97), kE P "is_known" 304 (.ref 104), kE P "to_int" 315 (.ref 111), kE P "code" 323 (.ref 118), kE P "slice_vec" 339 (.ref 125), kE P "put_slice" 355 (.ref 132), kE P "concat" 366 (.ref 139), kE P "extend" 379 (.ref 146), kE P "z_to_x" 386 (.ref 153), kE P "truth" 393 (.ref 160), kE P "add" 403 (.ref 167), kE P "sub" 411 (.ref 174), kE P "mul" 419 (.ref 181), kE P "neg" 426 (.ref 188), kE P "quotient" 435 (.ref 195), kE P "div" 446 (.ref 202), kE P "mod" 457 (.ref 209), kE P "raise_whole" 470 (.ref 216), kE P "power" 483 (.ref 223), kE P "shift_left" 493 (.ref 230), kE P "shift_right" 502 (.ref 237), kE P "shift_arith" 517 (.ref 244), kE P "ordered" 528 (.ref 251), kE P "less" 538 (.ref 258), kE P "less_equal" 548 (.ref 265), kE P "greater" 557 (.ref 272), kE P "greater_equal" 566 (.ref 279), kE P "one_bit" 575 (.ref 286), kE P "bit_not" 585 (.ref 293), kE P "bit_and" 599 (.ref 300), kE P "bit_or" 614 (.ref 307), kE P "bit_xor" 623 (.ref 314), kE P "bit_xnor" 631 (.ref 321), kE P "reduce_and" 641 (.ref 328), kE P "reduce_nand" 648 (.ref 335), kE P "reduce_or" 655 (.ref 342), kE P "reduce_nor" 662 (.ref 349), kE P "reduce_xor" 671 (.ref 356), kE P "reduce_xnor" 678 (.ref 363), kE P "logic_not" 685 (.ref 370), kE P "logic_and" 693 (.ref 377), kE P "logic_or" 701 (.ref 384), kE P "equal" 710 (.ref 391), kE P "not_equal" 718 (.ref 398), kE P "case_equal" 726 (.ref 405), kE P "case_not_equal" 734 (.ref 412), kE P "choose" 747 (.ref 419), kE P "unary" 757 (.ref 426), kE P "arithmetic" 767 (.ref 433), kE P "comparison" 777 (.ref 440), kE P "bitwise" 786 (.ref 447), kE P "binary" 797 (.ref 454), kE P "whole_of" 806 (.ref 461), kE P "memory_word" 816 (.ref 468), kE P "picked" 826 (.ref 475), kE P "conditional" 836 (.ref 482), kE P "bits_needed" 844 (.ref 489), kE P "system_value" 855 (.ref 496), kE P "evaluate" 861 (.ref 501), kE P "locate" 870 (.ref 508), kE P "holder_width" 878 (.ref 515), kE P "resolve_target" 897 (.ref 522), kE P "store_rows" 914 (.ref 529), kE P "net_kinds" 922 (.ref 536), kE P "Signal" 1007 (.ref 588), kE P "Design" 1106 (.ref 651), kE P "Store" 1174 (.ref 693), kE P "Context" 1233 (.ref 736), kE P "_law_row" 1246 (.ref 747), kE P "_law_next" 1253 (.ref 754), kE P "_law_bits" 1265 (.ref 761), kE P "_law_made" 1275 (.ref 768), kE P "_law_const" 1285 (.ref 775), kE P "_law_whole" 1295 (.ref 782), kE P "_law_amount" 1301 (.ref 787), kE P "_law_part" 1317 (.ref 794), kE P "_law_source" 1330 (.ref 801), kE P "_law_low" 1338 (.ref 808), kE P "_law_write" 1363 (.ref 815), kE P "law" 1369 (.ref 820)] 97, #[]⟩
noncomputable def o12v13 (P : Params) : Obj := ⟨.none, none, .fields #[.int 1 0, .int 0 0, .ref 20, .int 5 0, .int 0 0, .ref 27, .int 11 0, .int 0 0, .ref 48, .int 14 0, .int 0 0, .ref 60, .int 16 0, .int 0 0, .ref 68, .int 19 0, .int 0 0, .ref 75, .int 21 0, .int 0 0, .ref 82, .int 24 0, .int 0 0, .ref 89, .int 26 0, .int 0 0, .ref 96, .int 28 0, .int 0 0, .ref 103, .int 30 0, .int 0 0, .ref 110, .int 37 0, .int 0 0, .ref 117, .int 39 0, .int 0 0, .ref 124, .int 50 0, .int 0 0, .ref 131, .int 61 0, .int 0 0, .ref 138, .int 70 0, .int 0 0, .ref 145, .int 80 0, .int 0 0, .ref 152, .int 82 0, .int 0 0, .ref 159, .int 89 0, .int 0 0, .ref 166, .int 93 0, .int 0 0, .ref 173, .int 97 0, .int 0 0, .ref 180, .int 101 0, .int 0 0, .ref 187, .int 105 0, .int 0 0, .ref 194, .int 110 0, .int 0 0, .ref 201, .int 116 0, .int 0 0, .ref 208, .int 122 0, .int 0 0, .ref 215, .int 133 0, .int 0 0, .ref 222, .int 148 0, .int 0 0, .ref 229, .int 156 0, .int 0 0, .ref 236, .int 163 0, .int 0 0, .ref 243, .int 173 0, .int 0 0, .ref 250, .int 181 0, .int 0 0, .ref 257, .int 186 0, .int 0 0, .ref 264, .int 191 0, .int 0 0, .ref 271, .int 193 0, .int 0 0, .ref 278, .int 196 0, .int 0 0, .ref 285, .int 198 0, .int 0 0, .ref 292, .int 201 0, .int 0 0, .ref 299, .int 206 0, .int 0 0, .ref 306, .int 212 0, .int 0 0, .ref 313, .int 215 0, .int 0 0, .ref 320, .int 217 0, .int 0 0, .ref 327, .int 222 0, .int 0 0, .ref 334, .int 224 0, .int 0 0, .ref 341, .int 226 0, .int 0 0, .ref 348, .int 228 0, .int 0 0, .ref 355, .int 237 0, .int 0 0, .ref 362, .int 239 0, .int 0 0, .ref 369, .int 241 0, .int 0 0, .ref 376, .int 243 0, .int 0 0, .ref 383, .int 245 0, .int 0 0, .ref 390, .int 250 0, .int 0 0, .ref 397, .int 252 0, .int 0 0, .ref 404, .int 254 0, .int 0 0, .ref 411, .int 256 0, .int 0 0, .ref 418, .int 267 0, .int 0 0, .ref 425, .int 287 0, .int 0 0, .ref 432, .int 305 0, .int 0 0, .ref 439, .int 323 0, .int 0 0, .ref 446, .int 337 0, .int 0 0, .ref 453, .int 346 0, .int 0 0, .ref 460, .int 348 0, .int 0 0, .ref 467, .int 356 0, .int 0 0, .ref 474, .int 362 0, .int 0 0, .ref 481, .int 370 0, .int 0 0, .ref 488, .int 375 0, .int 0 0, .ref 495, .int 388 0, .int 0 0, .ref 500, .int 419 0, .int 0 0, .ref 507, .int 426 0, .int 0 0, .ref 514, .int 430 0, .int 0 0, .ref 521, .int 449 0, .int 0 0, .ref 528, .int 460 0, .int 0 0, .ref 535, .int 462 0, .int 0 0, .ref 542, .int 508 0, .int 0 0, .ref 598, .int 545 0, .int 0 0, .ref 661, .int 588 0, .int 0 0, .ref 703, .int 608 0, .int 0 0, .ref 746, .int 621 0, .int 0 0, .ref 753, .int 623 0, .int 0 0, .ref 760, .int 631 0, .int 0 0, .ref 767, .int 638 0, .int 0 0, .ref 774, .int 641 0, .int 0 0, .ref 781, .int 648 0, .int 0 0, .ref 786, .int 653 0, .int 0 0, .ref 793, .int 669 0, .int 0 0, .ref 800, .int 675 0, .int 0 0, .ref 807, .int 680 0, .int 0 0, .ref 814, .int 703 0, .int 0 0, .ref 819], #[]⟩
noncomputable def o755 (P : Params) : Obj := ⟨.type "tuple", none, .seq #[] 0, #[]⟩
noncomputable def o756 (P : Params) : Obj := ⟨.none, none, .fields #[], #[]⟩
noncomputable def o757 (P : Params) : Obj := ⟨.type "tuple", none, .seq #[kS "row" 1257, kS "wide" 1258, kS "bits" 1259, kS "turn" 1260, kS "number" 1261, kS "step" 1262] 0, #[]⟩
noncomputable def o758 (P : Params) : Obj := ⟨.type "tuple", none, .seq #[] 0, #[]⟩
noncomputable def o759 (P : Params) : Obj := ⟨.none, none, fD (st 86) (.ofString "_law_bits") 0 [] .none .none .none .none none .none .none 0, #[]⟩
noncomputable def o760 (P : Params) : Obj := ⟨.type "code", none, .fields #[kS "_law_bits" 1254, kS "_law_bits" 1255, kS "/claim/cut.py" 1256, .int 623 0, .int 2 0, .int 0 0, .int 0 0, .int 3 0, .ref 755, .bool true, .int 181 0, .ref 756, .none, .ref 757, .ref 758, .ref 759, .int 1263 0, .int 623 0, kS "/claim/cut.py" 1264], #[]⟩
noncomputable def o761 (P : Params) : Obj := ⟨.type "function", none, fD (st 86) (.ofString "_law_bits") 3 [] .none .none .none (kS "law_nn0334_01" 1234) none (.ref 760) .none 0, #[]⟩
noncomputable def o762 (P : Params) : Obj := ⟨.type "tuple", none, .seq #[] 0, #[]⟩
noncomputable def o763 (P : Params) : Obj := ⟨.none, none, .fields #[], #[]⟩
noncomputable def o764 (P : Params) : Obj := ⟨.type "tuple", none, .seq #[kS "bits" 1269, kS "low" 1270, kS "high" 1271, kS "spot" 1272] 0, #[]⟩
noncomputable def o765 (P : Params) : Obj := ⟨.type "tuple", none, .seq #[] 0, #[]⟩
noncomputable def o766 (P : Params) : Obj := ⟨.none, none, fD (st 87) (.ofString "_law_made") 0 [] .none .none .none .none none .none .none 0, #[]⟩
noncomputable def o767 (P : Params) : Obj := ⟨.type "code", none, .fields #[kS "_law_made" 1266, kS "_law_made" 1267, kS "/claim/cut.py" 1268, .int 631 0, .int 1 0, .int 0 0, .int 0 0, .int 3 0, .ref 762, .bool true, .int 181 0, .ref 763, .none, .ref 764, .ref 765, .ref 766, .int 1273 0, .int 631 0, kS "/claim/cut.py" 1274], #[]⟩
noncomputable def o768 (P : Params) : Obj := ⟨.type "function", none, fD (st 87) (.ofString "_law_made") 3 [] .none .none .none (kS "law_nn0334_01" 1234) none (.ref 767) .none 0, #[]⟩
noncomputable def o769 (P : Params) : Obj := ⟨.type "tuple", none, .seq #[] 0, #[]⟩
noncomputable def o770 (P : Params) : Obj := ⟨.none, none, .fields #[], #[]⟩
noncomputable def o771 (P : Params) : Obj := ⟨.type "tuple", none, .seq #[kS "bits" 1279, kS "wide" 1280, kS "low" 1281, kS "high" 1282] 0, #[]⟩
noncomputable def o772 (P : Params) : Obj := ⟨.type "tuple", none, .seq #[] 0, #[]⟩
noncomputable def o773 (P : Params) : Obj := ⟨.none, none, fD (st 88) (.ofString "_law_const") 0 [] .none .none .none .none none .none .none 0, #[]⟩
noncomputable def o774 (P : Params) : Obj := ⟨.type "code", none, .fields #[kS "_law_const" 1276, kS "_law_const" 1277, kS "/claim/cut.py" 1278, .int 638 0, .int 1 0, .int 0 0, .int 0 0, .int 3 0, .ref 769, .bool true, .int 181 0, .ref 770, .none, .ref 771, .ref 772, .ref 773, .int 1283 0, .int 638 0, kS "/claim/cut.py" 1284], #[]⟩
noncomputable def o775 (P : Params) : Obj := ⟨.type "function", none, fD (st 88) (.ofString "_law_const") 3 [] .none .none .none (kS "law_nn0334_01" 1234) none (.ref 774) .none 0, #[]⟩
noncomputable def o776 (P : Params) : Obj := ⟨.type "tuple", none, .seq #[] 0, #[]⟩
noncomputable def o777 (P : Params) : Obj := ⟨.none, none, .fields #[], #[]⟩
noncomputable def o778 (P : Params) : Obj := ⟨.type "tuple", none, .seq #[kS "bits" 1289, kS "signed" 1290, kS "figure" 1291, kS "spot" 1292] 0, #[]⟩
noncomputable def o779 (P : Params) : Obj := ⟨.type "tuple", none, .seq #[] 0, #[]⟩
noncomputable def o780 (P : Params) : Obj := ⟨.none, none, fD (st 89) (.ofString "_law_whole") 0 [] .none .none .none .none none .none .none 0, #[]⟩
noncomputable def o781 (P : Params) : Obj := ⟨.type "code", none, .fields #[kS "_law_whole" 1286, kS "_law_whole" 1287, kS "/claim/cut.py" 1288, .int 641 0, .int 2 0, .int 0 0, .int 0 0, .int 3 0, .ref 776, .bool true, .int 181 0, .ref 777, .none, .ref 778, .ref 779, .ref 780, .int 1293 0, .int 641 0, kS "/claim/cut.py" 1294], #[]⟩
noncomputable def o782 (P : Params) : Obj := ⟨.type "function", none, fD (st 89) (.ofString "_law_whole") 3 [] .none .none .none (kS "law_nn0334_01" 1234) none (.ref 781) .none 0, #[]⟩
noncomputable def o783 (P : Params) : Obj := ⟨.type "tuple", none, .seq #[] 0, #[]⟩
noncomputable def o784 (P : Params) : Obj := ⟨.none, none, .fields #[], #[]⟩
noncomputable def o785 (P : Params) : Obj := ⟨.none, none, fD (st 90) (.ofString "_law_amount") 0 [] .none .none .none .none none .none .none 0, #[]⟩
noncomputable def o786 (P : Params) : Obj := ⟨.type "code", none, .fields #[kS "_law_amount" 1296, kS "_law_amount" 1297, kS "/claim/cut.py" 1298, .int 648 0, .int 1 0, .int 0 0, .int 0 0, .int 3 0, .ref 783, .bool true, .int 181 0, .ref 784, .none, .none, .none, .ref 785, .int 1299 0, .int 648 0, kS "/claim/cut.py" 1300], #[]⟩
noncomputable def o787 (P : Params) : Obj := ⟨.type "function", none, fD (st 90) (.ofString "_law_amount") 3 [] .none .none .none (kS "law_nn0334_01" 1234) none (.ref 786) .none 0, #[]⟩
noncomputable def o788 (P : Params) : Obj := ⟨.type "tuple", none, .seq #[] 0, #[]⟩
noncomputable def o789 (P : Params) : Obj := ⟨.none, none, .fields #[], #[]⟩
noncomputable def o790 (P : Params) : Obj := ⟨.type "tuple", none, .seq #[kS "row" 1305, kS "widths" 1306, kS "pick" 1307, kS "kind" 1308, kS "ref" 1309, kS "total" 1310, kS "word" 1311, kS "draw" 1312, kS "wide" 1313, kS "base" 1314] 0, #[]⟩
noncomputable def o791 (P : Params) : Obj := ⟨.type "tuple", none, .seq #[] 0, #[]⟩
noncomputable def o792 (P : Params) : Obj := ⟨.none, none, fD (st 91) (.ofString "_law_part") 0 [] .none .none .none .none none .none .none 0, #[]⟩
noncomputable def o793 (P : Params) : Obj := ⟨.type "code", none, .fields #[kS "_law_part" 1302, kS "_law_part" 1303, kS "/claim/cut.py" 1304, .int 653 0, .int 2 0, .int 0 0, .int 0 0, .int 3 0, .ref 788, .bool true, .int 181 0, .ref 789, .none, .ref 790, .ref 791, .ref 792, .int 1315 0, .int 653 0, kS "/claim/cut.py" 1316], #[]⟩
noncomputable def o794 (P : Params) : Obj := ⟨.type "function", none, fD (st 91) (.ofString "_law_part") 3 [] .none .none .none (kS "law_nn0334_01" 1234) none (.ref 793) .none 0, #[]⟩
noncomputable def o795 (P : Params) : Obj := ⟨.type "tuple", none, .seq #[] 0, #[]⟩
noncomputable def o796 (P : Params) : Obj := ⟨.none, none, .fields #[], #[]⟩
noncomputable def o797 (P : Params) : Obj := ⟨.type "tuple", none, .seq #[kS "part" 1321, kS "kind" 1322, kS "wide" 1323, kS "ref" 1324, kS "word" 1325, kS "where" 1326, kS "spot" 1327] 0, #[]⟩
noncomputable def o798 (P : Params) : Obj := ⟨.type "tuple", none, .seq #[] 0, #[]⟩
noncomputable def o799 (P : Params) : Obj := ⟨.none, none, fD (st 92) (.ofString "_law_source") 0 [] .none .none .none .none none .none .none 0, #[]⟩
noncomputable def o800 (P : Params) : Obj := ⟨.type "code", none, .fields #[kS "_law_source" 1318, kS "_law_source" 1319, kS "/claim/cut.py" 1320, .int 669 0, .int 1 0, .int 0 0, .int 0 0, .int 3 0, .ref 795, .bool true, .int 181 0, .ref 796, .none, .ref 797, .ref 798, .ref 799, .int 1328 0, .int 669 0, kS "/claim/cut.py" 1329], #[]⟩
noncomputable def o801 (P : Params) : Obj := ⟨.type "function", none, fD (st 92) (.ofString "_law_source") 3 [] .none .none .none (kS "law_nn0334_01" 1234) none (.ref 800) .none 0, #[]⟩
noncomputable def o802 (P : Params) : Obj := ⟨.type "tuple", none, .seq #[] 0, #[]⟩
noncomputable def o803 (P : Params) : Obj := ⟨.none, none, .fields #[], #[]⟩
noncomputable def o804 (P : Params) : Obj := ⟨.type "tuple", none, .seq #[kS "where" 1334, kS "index" 1335] 0, #[]⟩
noncomputable def o805 (P : Params) : Obj := ⟨.type "tuple", none, .seq #[] 0, #[]⟩
noncomputable def o806 (P : Params) : Obj := ⟨.none, none, fD (st 93) (.ofString "_law_low") 0 [] .none .none .none .none none .none .none 0, #[]⟩
noncomputable def o807 (P : Params) : Obj := ⟨.type "code", none, .fields #[kS "_law_low" 1331, kS "_law_low" 1332, kS "/claim/cut.py" 1333, .int 675 0, .int 1 0, .int 0 0, .int 0 0, .int 3 0, .ref 802, .bool true, .int 181 0, .ref 803, .none, .ref 804, .ref 805, .ref 806, .int 1336 0, .int 675 0, kS "/claim/cut.py" 1337], #[]⟩
noncomputable def o808 (P : Params) : Obj := ⟨.type "function", none, fD (st 93) (.ofString "_law_low") 3 [] .none .none .none (kS "law_nn0334_01" 1234) none (.ref 807) .none 0, #[]⟩
noncomputable def o809 (P : Params) : Obj := ⟨.type "tuple", none, .seq #[] 0, #[]⟩
noncomputable def o810 (P : Params) : Obj := ⟨.none, none, .fields #[], #[]⟩
noncomputable def o811 (P : Params) : Obj := ⟨.type "tuple", none, .seq #[kS "parts" 1342, kS "value" 1343, kS "held" 1344, kS "words" 1345, kS "slots" 1346, kS "changed" 1347, kS "rest" 1348, kS "part" 1349, kS "kind" 1350, kS "wide" 1351, kS "ref" 1352, kS "word" 1353, kS "where" 1354, kS "piece" 1355, kS "bits" 1356, kS "index" 1357, kS "low" 1358, kS "before" 1359, kS "step" 1360] 0, #[]⟩
noncomputable def o812 (P : Params) : Obj := ⟨.type "tuple", none, .seq #[] 0, #[]⟩
noncomputable def o813 (P : Params) : Obj := ⟨.none, none, fD (st 94) (.ofString "_law_write") 0 [] .none .none .none .none none .none .none 0, #[]⟩
noncomputable def o814 (P : Params) : Obj := ⟨.type "code", none, .fields #[kS "_law_write" 1339, kS "_law_write" 1340, kS "/claim/cut.py" 1341, .int 680 0, .int 5 0, .int 0 0, .int 0 0, .int 3 0, .ref 809, .bool true, .int 181 0, .ref 810, .none, .ref 811, .ref 812, .ref 813, .int 1361 0, .int 680 0, kS "/claim/cut.py" 1362], #[]⟩
noncomputable def o815 (P : Params) : Obj := ⟨.type "function", none, fD (st 94) (.ofString "_law_write") 3 [] .none .none .none (kS "law_nn0334_01" 1234) none (.ref 814) .none 0, #[]⟩
noncomputable def o816 (P : Params) : Obj := ⟨.type "tuple", none, .seq #[] 0, #[]⟩
noncomputable def o817 (P : Params) : Obj := ⟨.none, none, .fields #[], #[]⟩
noncomputable def o818 (P : Params) : Obj := ⟨.none, none, fD (st 95) (.ofString "law") 0 [] .none .none .none .none none .none .none 0, #[]⟩
noncomputable def o819 (P : Params) : Obj := ⟨.type "code", none, .fields #[kS "law" 1364, kS "law" 1365, kS "/claim/cut.py" 1366, .int 703 0, .int 1 0, .int 0 0, .int 0 0, .int 3 0, .ref 816, .bool true, .int 181 0, .ref 817, .none, .none, .none, .ref 818, .int 1367 0, .int 703 0, kS "/claim/cut.py" 1368], #[]⟩
noncomputable def o820 (P : Params) : Obj := ⟨.type "function", none, fD (st 95) (.ofString "law") 3 [] .none .none .none (kS "law_nn0334_01" 1234) none (.ref 819) .none 0, #[]⟩
noncomputable def t13 (P : Params) : BT := .node (boot_o_0 P) (.node (boot_o_1 P) (.node (o3v13 P) (.node (boot_o_7 P) (.node (o15 P) (.node (o31 P) (.node (o63 P) (.node (o127 P) (.node (o255 P) (.node (o511 P) (.nil) (.nil)) (.node (o767 P) (.nil) (.nil))) (.node (o383 P) (.node (o639 P) (.nil) (.nil)) (.nil))) (.node (o191 P) (.node (o319 P) (.node (o575 P) (.nil) (.nil)) (.nil)) (.node (o447 P) (.node (o703 P) (.nil) (.nil)) (.nil)))) (.node (o95 P) (.node (o159 P) (.node (o287 P) (.node (o543 P) (.nil) (.nil)) (.node (o799 P) (.nil) (.nil))) (.node (o415 P) (.node (o671 P) (.nil) (.nil)) (.nil))) (.node (o223 P) (.node (o351 P) (.node (o607 P) (.nil) (.nil)) (.nil)) (.node (o479 P) (.node (o735 P) (.nil) (.nil)) (.nil))))) (.node (o47 P) (.node (o79 P) (.node (o143 P) (.node (o271 P) (.node (o527 P) (.nil) (.nil)) (.node (o783 P) (.nil) (.nil))) (.node (o399 P) (.node (o655 P) (.nil) (.nil)) (.nil))) (.node (o207 P) (.node (o335 P) (.node (o591 P) (.nil) (.nil)) (.nil)) (.node (o463 P) (.node (o719 P) (.nil) (.nil)) (.nil)))) (.node (o111 P) (.node (o175 P) (.node (o303 P) (.node (o559 P) (.nil) (.nil)) (.node (o815 P) (.nil) (.nil))) (.node (o431 P) (.node (o687 P) (.nil) (.nil)) (.nil))) (.node (o239 P) (.node (o367 P) (.node (o623 P) (.nil) (.nil)) (.nil)) (.node (o495 P) (.node (o751 P) (.nil) (.nil)) (.nil)))))) (.node (o23 P) (.node (o39v1 P) (.node (o71 P) (.node (o135 P) (.node (o263 P) (.node (o519 P) (.nil) (.nil)) (.node (o775 P) (.nil) (.nil))) (.node (o391 P) (.node (o647 P) (.nil) (.nil)) (.nil))) (.node (o199 P) (.node (o327 P) (.node (o583 P) (.nil) (.nil)) (.nil)) (.node (o455 P) (.node (o711 P) (.nil) (.nil)) (.nil)))) (.node (o103 P) (.node (o167 P) (.node (o295 P) (.node (o551 P) (.nil) (.nil)) (.node (o807 P) (.nil) (.nil))) (.node (o423 P) (.node (o679 P) (.nil) (.nil)) (.nil))) (.node (o231 P) (.node (o359 P) (.node (o615 P) (.nil) (.nil)) (.nil)) (.node (o487 P) (.node (o743 P) (.nil) (.nil)) (.nil))))) (.node (o55 P) (.node (o87 P) (.node (o151 P) (.node (o279 P) (.node (o535 P) (.nil) (.nil)) (.node (o791 P) (.nil) (.nil))) (.node (o407 P) (.node (o663 P) (.nil) (.nil)) (.nil))) (.node (o215 P) (.node (o343 P) (.node (o599 P) (.nil) (.nil)) (.nil)) (.node (o471 P) (.node (o727 P) (.nil) (.nil)) (.nil)))) (.node (o119 P) (.node (o183 P) (.node (o311 P) (.node (o567 P) (.nil) (.nil)) (.nil)) (.node (o439 P) (.node (o695 P) (.nil) (.nil)) (.nil))) (.node (o247 P) (.node (o375 P) (.node (o631 P) (.nil) (.nil)) (.nil)) (.node (o503 P) (.node (o759 P) (.nil) (.nil)) (.nil))))))) (.node (o11 P) (.node (o19 P) (.node (o35 P) (.node (o67 P) (.node (o131 P) (.node (o259 P) (.node (o515 P) (.nil) (.nil)) (.node (o771 P) (.nil) (.nil))) (.node (o387 P) (.node (o643 P) (.nil) (.nil)) (.nil))) (.node (o195 P) (.node (o323 P) (.node (o579 P) (.nil) (.nil)) (.nil)) (.node (o451 P) (.node (o707 P) (.nil) (.nil)) (.nil)))) (.node (o99 P) (.node (o163 P) (.node (o291 P) (.node (o547 P) (.nil) (.nil)) (.node (o803 P) (.nil) (.nil))) (.node (o419 P) (.node (o675 P) (.nil) (.nil)) (.nil))) (.node (o227 P) (.node (o355 P) (.node (o611 P) (.nil) (.nil)) (.nil)) (.node (o483 P) (.node (o739 P) (.nil) (.nil)) (.nil))))) (.node (o51 P) (.node (o83 P) (.node (o147 P) (.node (o275 P) (.node (o531 P) (.nil) (.nil)) (.node (o787 P) (.nil) (.nil))) (.node (o403 P) (.node (o659 P) (.nil) (.nil)) (.nil))) (.node (o211 P) (.node (o339 P) (.node (o595 P) (.nil) (.nil)) (.nil)) (.node (o467 P) (.node (o723 P) (.nil) (.nil)) (.nil)))) (.node (o115 P) (.node (o179 P) (.node (o307 P) (.node (o563 P) (.nil) (.nil)) (.node (o819 P) (.nil) (.nil))) (.node (o435 P) (.node (o691 P) (.nil) (.nil)) (.nil))) (.node (o243 P) (.node (o371 P) (.node (o627 P) (.nil) (.nil)) (.nil)) (.node (o499 P) (.node (o755 P) (.nil) (.nil)) (.nil)))))) (.node (o27 P) (.node (o43 P) (.node (o75 P) (.node (o139 P) (.node (o267 P) (.node (o523 P) (.nil) (.nil)) (.node (o779 P) (.nil) (.nil))) (.node (o395 P) (.node (o651 P) (.nil) (.nil)) (.nil))) (.node (o203 P) (.node (o331 P) (.node (o587 P) (.nil) (.nil)) (.nil)) (.node (o459 P) (.node (o715 P) (.nil) (.nil)) (.nil)))) (.node (o107 P) (.node (o171 P) (.node (o299 P) (.node (o555 P) (.nil) (.nil)) (.node (o811 P) (.nil) (.nil))) (.node (o427 P) (.node (o683 P) (.nil) (.nil)) (.nil))) (.node (o235 P) (.node (o363 P) (.node (o619 P) (.nil) (.nil)) (.nil)) (.node (o491 P) (.node (o747 P) (.nil) (.nil)) (.nil))))) (.node (o59 P) (.node (o91 P) (.node (o155 P) (.node (o283 P) (.node (o539 P) (.nil) (.nil)) (.node (o795 P) (.nil) (.nil))) (.node (o411 P) (.node (o667 P) (.nil) (.nil)) (.nil))) (.node (o219 P) (.node (o347 P) (.node (o603 P) (.nil) (.nil)) (.nil)) (.node (o475 P) (.node (o731 P) (.nil) (.nil)) (.nil)))) (.node (o123 P) (.node (o187 P) (.node (o315 P) (.node (o571 P) (.nil) (.nil)) (.nil)) (.node (o443 P) (.node (o699 P) (.nil) (.nil)) (.nil))) (.node (o251 P) (.node (o379 P) (.node (o635 P) (.nil) (.nil)) (.nil)) (.node (o507 P) (.node (o763 P) (.nil) (.nil)) (.nil)))))))) (.node (boot_o_5 P) (.node (boot_o_9 P) (.node (o17 P) (.node (o33 P) (.node (o65 P) (.node (o129 P) (.node (o257 P) (.node (o513 P) (.nil) (.nil)) (.node (o769 P) (.nil) (.nil))) (.node (o385 P) (.node (o641 P) (.nil) (.nil)) (.nil))) (.node (o193 P) (.node (o321 P) (.node (o577 P) (.nil) (.nil)) (.nil)) (.node (o449 P) (.node (o705 P) (.nil) (.nil)) (.nil)))) (.node (o97 P) (.node (o161 P) (.node (o289 P) (.node (o545 P) (.nil) (.nil)) (.node (o801 P) (.nil) (.nil))) (.node (o417 P) (.node (o673 P) (.nil) (.nil)) (.nil))) (.node (o225 P) (.node (o353 P) (.node (o609 P) (.nil) (.nil)) (.nil)) (.node (o481 P) (.node (o737 P) (.nil) (.nil)) (.nil))))) (.node (o49 P) (.node (o81 P) (.node (o145 P) (.node (o273 P) (.node (o529 P) (.nil) (.nil)) (.node (o785 P) (.nil) (.nil))) (.node (o401 P) (.node (o657 P) (.nil) (.nil)) (.nil))) (.node (o209 P) (.node (o337 P) (.node (o593 P) (.nil) (.nil)) (.nil)) (.node (o465 P) (.node (o721 P) (.nil) (.nil)) (.nil)))) (.node (o113 P) (.node (o177 P) (.node (o305 P) (.node (o561 P) (.nil) (.nil)) (.node (o817 P) (.nil) (.nil))) (.node (o433 P) (.node (o689 P) (.nil) (.nil)) (.nil))) (.node (o241 P) (.node (o369 P) (.node (o625 P) (.nil) (.nil)) (.nil)) (.node (o497 P) (.node (o753 P) (.nil) (.nil)) (.nil)))))) (.node (o25 P) (.node (o41 P) (.node (o73 P) (.node (o137 P) (.node (o265 P) (.node (o521 P) (.nil) (.nil)) (.node (o777 P) (.nil) (.nil))) (.node (o393 P) (.node (o649 P) (.nil) (.nil)) (.nil))) (.node (o201 P) (.node (o329 P) (.node (o585 P) (.nil) (.nil)) (.nil)) (.node (o457 P) (.node (o713 P) (.nil) (.nil)) (.nil)))) (.node (o105 P) (.node (o169 P) (.node (o297 P) (.node (o553 P) (.nil) (.nil)) (.node (o809 P) (.nil) (.nil))) (.node (o425 P) (.node (o681 P) (.nil) (.nil)) (.nil))) (.node (o233 P) (.node (o361 P) (.node (o617 P) (.nil) (.nil)) (.nil)) (.node (o489 P) (.node (o745 P) (.nil) (.nil)) (.nil))))) (.node (o57 P) (.node (o89 P) (.node (o153 P) (.node (o281 P) (.node (o537 P) (.nil) (.nil)) (.node (o793 P) (.nil) (.nil))) (.node (o409 P) (.node (o665 P) (.nil) (.nil)) (.nil))) (.node (o217 P) (.node (o345 P) (.node (o601 P) (.nil) (.nil)) (.nil)) (.node (o473 P) (.node (o729 P) (.nil) (.nil)) (.nil)))) (.node (o121 P) (.node (o185 P) (.node (o313 P) (.node (o569 P) (.nil) (.nil)) (.nil)) (.node (o441 P) (.node (o697 P) (.nil) (.nil)) (.nil))) (.node (o249 P) (.node (o377 P) (.node (o633 P) (.nil) (.nil)) (.nil)) (.node (o505 P) (.node (o761 P) (.nil) (.nil)) (.nil))))))) (.node (o13 P) (.node (o21 P) (.node (o37 P) (.node (o69 P) (.node (o133 P) (.node (o261 P) (.node (o517 P) (.nil) (.nil)) (.node (o773 P) (.nil) (.nil))) (.node (o389 P) (.node (o645 P) (.nil) (.nil)) (.nil))) (.node (o197 P) (.node (o325 P) (.node (o581 P) (.nil) (.nil)) (.nil)) (.node (o453 P) (.node (o709 P) (.nil) (.nil)) (.nil)))) (.node (o101 P) (.node (o165 P) (.node (o293 P) (.node (o549 P) (.nil) (.nil)) (.node (o805 P) (.nil) (.nil))) (.node (o421 P) (.node (o677 P) (.nil) (.nil)) (.nil))) (.node (o229 P) (.node (o357 P) (.node (o613 P) (.nil) (.nil)) (.nil)) (.node (o485 P) (.node (o741 P) (.nil) (.nil)) (.nil))))) (.node (o53 P) (.node (o85 P) (.node (o149 P) (.node (o277 P) (.node (o533 P) (.nil) (.nil)) (.node (o789 P) (.nil) (.nil))) (.node (o405 P) (.node (o661 P) (.nil) (.nil)) (.nil))) (.node (o213 P) (.node (o341 P) (.node (o597 P) (.nil) (.nil)) (.nil)) (.node (o469 P) (.node (o725 P) (.nil) (.nil)) (.nil)))) (.node (o117 P) (.node (o181 P) (.node (o309 P) (.node (o565 P) (.nil) (.nil)) (.nil)) (.node (o437 P) (.node (o693 P) (.nil) (.nil)) (.nil))) (.node (o245 P) (.node (o373 P) (.node (o629 P) (.nil) (.nil)) (.nil)) (.node (o501 P) (.node (o757 P) (.nil) (.nil)) (.nil)))))) (.node (o29 P) (.node (o45 P) (.node (o77 P) (.node (o141 P) (.node (o269 P) (.node (o525 P) (.nil) (.nil)) (.node (o781 P) (.nil) (.nil))) (.node (o397 P) (.node (o653 P) (.nil) (.nil)) (.nil))) (.node (o205 P) (.node (o333 P) (.node (o589 P) (.nil) (.nil)) (.nil)) (.node (o461 P) (.node (o717 P) (.nil) (.nil)) (.nil)))) (.node (o109 P) (.node (o173 P) (.node (o301 P) (.node (o557 P) (.nil) (.nil)) (.node (o813 P) (.nil) (.nil))) (.node (o429 P) (.node (o685 P) (.nil) (.nil)) (.nil))) (.node (o237 P) (.node (o365 P) (.node (o621 P) (.nil) (.nil)) (.nil)) (.node (o493 P) (.node (o749 P) (.nil) (.nil)) (.nil))))) (.node (o61 P) (.node (o93 P) (.node (o157 P) (.node (o285 P) (.node (o541 P) (.nil) (.nil)) (.node (o797 P) (.nil) (.nil))) (.node (o413 P) (.node (o669 P) (.nil) (.nil)) (.nil))) (.node (o221 P) (.node (o349 P) (.node (o605 P) (.nil) (.nil)) (.nil)) (.node (o477 P) (.node (o733 P) (.nil) (.nil)) (.nil)))) (.node (o125 P) (.node (o189 P) (.node (o317 P) (.node (o573 P) (.nil) (.nil)) (.nil)) (.node (o445 P) (.node (o701 P) (.nil) (.nil)) (.nil))) (.node (o253 P) (.node (o381 P) (.node (o637 P) (.nil) (.nil)) (.nil)) (.node (o509 P) (.node (o765 P) (.nil) (.nil)) (.nil))))))))) (.node (o2v1 P) (.node (boot_o_4 P) (.node (boot_o_8 P) (.node (o16 P) (.node (o32 P) (.node (o64 P) (.node (o128 P) (.node (o256 P) (.node (o512 P) (.nil) (.nil)) (.node (o768 P) (.nil) (.nil))) (.node (o384 P) (.node (o640 P) (.nil) (.nil)) (.nil))) (.node (o192 P) (.node (o320 P) (.node (o576 P) (.nil) (.nil)) (.nil)) (.node (o448 P) (.node (o704 P) (.nil) (.nil)) (.nil)))) (.node (o96 P) (.node (o160 P) (.node (o288 P) (.node (o544 P) (.nil) (.nil)) (.node (o800 P) (.nil) (.nil))) (.node (o416 P) (.node (o672 P) (.nil) (.nil)) (.nil))) (.node (o224 P) (.node (o352 P) (.node (o608 P) (.nil) (.nil)) (.nil)) (.node (o480 P) (.node (o736 P) (.nil) (.nil)) (.nil))))) (.node (o48 P) (.node (o80 P) (.node (o144 P) (.node (o272 P) (.node (o528 P) (.nil) (.nil)) (.node (o784 P) (.nil) (.nil))) (.node (o400 P) (.node (o656 P) (.nil) (.nil)) (.nil))) (.node (o208 P) (.node (o336 P) (.node (o592 P) (.nil) (.nil)) (.nil)) (.node (o464 P) (.node (o720 P) (.nil) (.nil)) (.nil)))) (.node (o112 P) (.node (o176 P) (.node (o304 P) (.node (o560 P) (.nil) (.nil)) (.node (o816 P) (.nil) (.nil))) (.node (o432 P) (.node (o688 P) (.nil) (.nil)) (.nil))) (.node (o240 P) (.node (o368 P) (.node (o624 P) (.nil) (.nil)) (.nil)) (.node (o496 P) (.node (o752 P) (.nil) (.nil)) (.nil)))))) (.node (o24 P) (.node (o40 P) (.node (o72 P) (.node (o136 P) (.node (o264 P) (.node (o520 P) (.nil) (.nil)) (.node (o776 P) (.nil) (.nil))) (.node (o392 P) (.node (o648 P) (.nil) (.nil)) (.nil))) (.node (o200 P) (.node (o328 P) (.node (o584 P) (.nil) (.nil)) (.nil)) (.node (o456 P) (.node (o712 P) (.nil) (.nil)) (.nil)))) (.node (o104 P) (.node (o168 P) (.node (o296 P) (.node (o552 P) (.nil) (.nil)) (.node (o808 P) (.nil) (.nil))) (.node (o424 P) (.node (o680 P) (.nil) (.nil)) (.nil))) (.node (o232 P) (.node (o360 P) (.node (o616 P) (.nil) (.nil)) (.nil)) (.node (o488 P) (.node (o744 P) (.nil) (.nil)) (.nil))))) (.node (o56 P) (.node (o88 P) (.node (o152 P) (.node (o280 P) (.node (o536 P) (.nil) (.nil)) (.node (o792 P) (.nil) (.nil))) (.node (o408 P) (.node (o664 P) (.nil) (.nil)) (.nil))) (.node (o216 P) (.node (o344 P) (.node (o600 P) (.nil) (.nil)) (.nil)) (.node (o472 P) (.node (o728 P) (.nil) (.nil)) (.nil)))) (.node (o120 P) (.node (o184 P) (.node (o312 P) (.node (o568 P) (.nil) (.nil)) (.nil)) (.node (o440 P) (.node (o696 P) (.nil) (.nil)) (.nil))) (.node (o248 P) (.node (o376 P) (.node (o632 P) (.nil) (.nil)) (.nil)) (.node (o504 P) (.node (o760 P) (.nil) (.nil)) (.nil))))))) (.node (o12v13 P) (.node (o20 P) (.node (o36 P) (.node (o68 P) (.node (o132 P) (.node (o260 P) (.node (o516 P) (.nil) (.nil)) (.node (o772 P) (.nil) (.nil))) (.node (o388 P) (.node (o644 P) (.nil) (.nil)) (.nil))) (.node (o196 P) (.node (o324 P) (.node (o580 P) (.nil) (.nil)) (.nil)) (.node (o452 P) (.node (o708 P) (.nil) (.nil)) (.nil)))) (.node (o100 P) (.node (o164 P) (.node (o292 P) (.node (o548 P) (.nil) (.nil)) (.node (o804 P) (.nil) (.nil))) (.node (o420 P) (.node (o676 P) (.nil) (.nil)) (.nil))) (.node (o228 P) (.node (o356 P) (.node (o612 P) (.nil) (.nil)) (.nil)) (.node (o484 P) (.node (o740 P) (.nil) (.nil)) (.nil))))) (.node (o52 P) (.node (o84 P) (.node (o148 P) (.node (o276 P) (.node (o532 P) (.nil) (.nil)) (.node (o788 P) (.nil) (.nil))) (.node (o404 P) (.node (o660 P) (.nil) (.nil)) (.nil))) (.node (o212 P) (.node (o340 P) (.node (o596 P) (.nil) (.nil)) (.nil)) (.node (o468 P) (.node (o724 P) (.nil) (.nil)) (.nil)))) (.node (o116 P) (.node (o180 P) (.node (o308 P) (.node (o564 P) (.nil) (.nil)) (.node (o820 P) (.nil) (.nil))) (.node (o436 P) (.node (o692 P) (.nil) (.nil)) (.nil))) (.node (o244 P) (.node (o372 P) (.node (o628 P) (.nil) (.nil)) (.nil)) (.node (o500 P) (.node (o756 P) (.nil) (.nil)) (.nil)))))) (.node (o28 P) (.node (o44 P) (.node (o76 P) (.node (o140 P) (.node (o268 P) (.node (o524 P) (.nil) (.nil)) (.node (o780 P) (.nil) (.nil))) (.node (o396 P) (.node (o652 P) (.nil) (.nil)) (.nil))) (.node (o204 P) (.node (o332 P) (.node (o588 P) (.nil) (.nil)) (.nil)) (.node (o460 P) (.node (o716 P) (.nil) (.nil)) (.nil)))) (.node (o108 P) (.node (o172 P) (.node (o300 P) (.node (o556 P) (.nil) (.nil)) (.node (o812 P) (.nil) (.nil))) (.node (o428 P) (.node (o684 P) (.nil) (.nil)) (.nil))) (.node (o236 P) (.node (o364 P) (.node (o620 P) (.nil) (.nil)) (.nil)) (.node (o492 P) (.node (o748 P) (.nil) (.nil)) (.nil))))) (.node (o60 P) (.node (o92 P) (.node (o156 P) (.node (o284 P) (.node (o540 P) (.nil) (.nil)) (.node (o796 P) (.nil) (.nil))) (.node (o412 P) (.node (o668 P) (.nil) (.nil)) (.nil))) (.node (o220 P) (.node (o348 P) (.node (o604 P) (.nil) (.nil)) (.nil)) (.node (o476 P) (.node (o732 P) (.nil) (.nil)) (.nil)))) (.node (o124 P) (.node (o188 P) (.node (o316 P) (.node (o572 P) (.nil) (.nil)) (.nil)) (.node (o444 P) (.node (o700 P) (.nil) (.nil)) (.nil))) (.node (o252 P) (.node (o380 P) (.node (o636 P) (.nil) (.nil)) (.nil)) (.node (o508 P) (.node (o764 P) (.nil) (.nil)) (.nil)))))))) (.node (boot_o_6 P) (.node (boot_o_10 P) (.node (o18 P) (.node (o34 P) (.node (o66 P) (.node (o130 P) (.node (o258 P) (.node (o514 P) (.nil) (.nil)) (.node (o770 P) (.nil) (.nil))) (.node (o386 P) (.node (o642 P) (.nil) (.nil)) (.nil))) (.node (o194 P) (.node (o322 P) (.node (o578 P) (.nil) (.nil)) (.nil)) (.node (o450 P) (.node (o706 P) (.nil) (.nil)) (.nil)))) (.node (o98 P) (.node (o162 P) (.node (o290 P) (.node (o546 P) (.nil) (.nil)) (.node (o802 P) (.nil) (.nil))) (.node (o418 P) (.node (o674 P) (.nil) (.nil)) (.nil))) (.node (o226 P) (.node (o354 P) (.node (o610 P) (.nil) (.nil)) (.nil)) (.node (o482 P) (.node (o738 P) (.nil) (.nil)) (.nil))))) (.node (o50 P) (.node (o82 P) (.node (o146 P) (.node (o274 P) (.node (o530 P) (.nil) (.nil)) (.node (o786 P) (.nil) (.nil))) (.node (o402 P) (.node (o658 P) (.nil) (.nil)) (.nil))) (.node (o210 P) (.node (o338 P) (.node (o594 P) (.nil) (.nil)) (.nil)) (.node (o466 P) (.node (o722 P) (.nil) (.nil)) (.nil)))) (.node (o114 P) (.node (o178 P) (.node (o306 P) (.node (o562 P) (.nil) (.nil)) (.node (o818 P) (.nil) (.nil))) (.node (o434 P) (.node (o690 P) (.nil) (.nil)) (.nil))) (.node (o242 P) (.node (o370 P) (.node (o626 P) (.nil) (.nil)) (.nil)) (.node (o498 P) (.node (o754 P) (.nil) (.nil)) (.nil)))))) (.node (o26 P) (.node (o42 P) (.node (o74 P) (.node (o138 P) (.node (o266 P) (.node (o522 P) (.nil) (.nil)) (.node (o778 P) (.nil) (.nil))) (.node (o394 P) (.node (o650 P) (.nil) (.nil)) (.nil))) (.node (o202 P) (.node (o330 P) (.node (o586 P) (.nil) (.nil)) (.nil)) (.node (o458 P) (.node (o714 P) (.nil) (.nil)) (.nil)))) (.node (o106 P) (.node (o170 P) (.node (o298 P) (.node (o554 P) (.nil) (.nil)) (.node (o810 P) (.nil) (.nil))) (.node (o426 P) (.node (o682 P) (.nil) (.nil)) (.nil))) (.node (o234 P) (.node (o362 P) (.node (o618 P) (.nil) (.nil)) (.nil)) (.node (o490 P) (.node (o746 P) (.nil) (.nil)) (.nil))))) (.node (o58 P) (.node (o90 P) (.node (o154 P) (.node (o282 P) (.node (o538 P) (.nil) (.nil)) (.node (o794 P) (.nil) (.nil))) (.node (o410 P) (.node (o666 P) (.nil) (.nil)) (.nil))) (.node (o218 P) (.node (o346 P) (.node (o602 P) (.nil) (.nil)) (.nil)) (.node (o474 P) (.node (o730 P) (.nil) (.nil)) (.nil)))) (.node (o122 P) (.node (o186 P) (.node (o314 P) (.node (o570 P) (.nil) (.nil)) (.nil)) (.node (o442 P) (.node (o698 P) (.nil) (.nil)) (.nil))) (.node (o250 P) (.node (o378 P) (.node (o634 P) (.nil) (.nil)) (.nil)) (.node (o506 P) (.node (o762 P) (.nil) (.nil)) (.nil))))))) (.node (o14 P) (.node (o22 P) (.node (o38 P) (.node (o70 P) (.node (o134 P) (.node (o262 P) (.node (o518 P) (.nil) (.nil)) (.node (o774 P) (.nil) (.nil))) (.node (o390 P) (.node (o646 P) (.nil) (.nil)) (.nil))) (.node (o198 P) (.node (o326 P) (.node (o582 P) (.nil) (.nil)) (.nil)) (.node (o454 P) (.node (o710 P) (.nil) (.nil)) (.nil)))) (.node (o102 P) (.node (o166 P) (.node (o294 P) (.node (o550 P) (.nil) (.nil)) (.node (o806 P) (.nil) (.nil))) (.node (o422 P) (.node (o678 P) (.nil) (.nil)) (.nil))) (.node (o230 P) (.node (o358 P) (.node (o614 P) (.nil) (.nil)) (.nil)) (.node (o486 P) (.node (o742 P) (.nil) (.nil)) (.nil))))) (.node (o54 P) (.node (o86 P) (.node (o150 P) (.node (o278 P) (.node (o534 P) (.nil) (.nil)) (.node (o790 P) (.nil) (.nil))) (.node (o406 P) (.node (o662 P) (.nil) (.nil)) (.nil))) (.node (o214 P) (.node (o342 P) (.node (o598 P) (.nil) (.nil)) (.nil)) (.node (o470 P) (.node (o726 P) (.nil) (.nil)) (.nil)))) (.node (o118 P) (.node (o182 P) (.node (o310 P) (.node (o566 P) (.nil) (.nil)) (.nil)) (.node (o438 P) (.node (o694 P) (.nil) (.nil)) (.nil))) (.node (o246 P) (.node (o374 P) (.node (o630 P) (.nil) (.nil)) (.nil)) (.node (o502 P) (.node (o758 P) (.nil) (.nil)) (.nil)))))) (.node (o30 P) (.node (o46 P) (.node (o78 P) (.node (o142 P) (.node (o270 P) (.node (o526 P) (.nil) (.nil)) (.node (o782 P) (.nil) (.nil))) (.node (o398 P) (.node (o654 P) (.nil) (.nil)) (.nil))) (.node (o206 P) (.node (o334 P) (.node (o590 P) (.nil) (.nil)) (.nil)) (.node (o462 P) (.node (o718 P) (.nil) (.nil)) (.nil)))) (.node (o110 P) (.node (o174 P) (.node (o302 P) (.node (o558 P) (.nil) (.nil)) (.node (o814 P) (.nil) (.nil))) (.node (o430 P) (.node (o686 P) (.nil) (.nil)) (.nil))) (.node (o238 P) (.node (o366 P) (.node (o622 P) (.nil) (.nil)) (.nil)) (.node (o494 P) (.node (o750 P) (.nil) (.nil)) (.nil))))) (.node (o62 P) (.node (o94 P) (.node (o158 P) (.node (o286 P) (.node (o542 P) (.nil) (.nil)) (.node (o798 P) (.nil) (.nil))) (.node (o414 P) (.node (o670 P) (.nil) (.nil)) (.nil))) (.node (o222 P) (.node (o350 P) (.node (o606 P) (.nil) (.nil)) (.nil)) (.node (o478 P) (.node (o734 P) (.nil) (.nil)) (.nil)))) (.node (o126 P) (.node (o190 P) (.node (o318 P) (.node (o574 P) (.nil) (.nil)) (.nil)) (.node (o446 P) (.node (o702 P) (.nil) (.nil)) (.nil))) (.node (o254 P) (.node (o382 P) (.node (o638 P) (.nil) (.nil)) (.nil)) (.node (o510 P) (.node (o766 P) (.nil) (.nil)) (.nil)))))))))
noncomputable def g12 : List Stmt := [st 86, st 87, st 88, st 89, st 90, st 91, st 92, st 93, st 94, st 95]
noncomputable abbrev S13 (w : World) (os : OsState) : SharedT := ⟨t13 w.params, 821, {}, #[], {}, 1370, os⟩
theorem pc12 (w : World) (os : OsState) : segRun treeTable PW w 11 an0 1 333 (S12 w os).abs (piecesOf g12 env0 cE ⟨621, 0, 622, 40⟩ fr0) = some (.next, (S13 w os).abs, cE, ⟨703, 0, 738, 15⟩) := by
  refine segRun_of ?_
  rewrite [TE_segRunT, TE_tree]
  kernel_rfl
noncomputable def hZ (P : Params) : Heap := ⟨⟨[boot_o_0 P, boot_o_1 P, o2v1 P, o3v13 P, boot_o_4 P, boot_o_5 P, boot_o_6 P, boot_o_7 P, boot_o_8 P, boot_o_9 P, boot_o_10 P, o11 P, o12v13 P, o13 P, o14 P, o15 P, o16 P, o17 P, o18 P, o19 P, o20 P, o21 P, o22 P, o23 P, o24 P, o25 P, o26 P, o27 P, o28 P, o29 P, o30 P, o31 P, o32 P, o33 P, o34 P, o35 P, o36 P, o37 P, o38 P, o39v1 P, o40 P, o41 P, o42 P, o43 P, o44 P, o45 P, o46 P, o47 P, o48 P, o49 P, o50 P, o51 P, o52 P, o53 P, o54 P, o55 P, o56 P, o57 P, o58 P, o59 P, o60 P, o61 P, o62 P, o63 P, o64 P, o65 P, o66 P, o67 P, o68 P, o69 P, o70 P, o71 P, o72 P, o73 P, o74 P, o75 P, o76 P, o77 P, o78 P, o79 P, o80 P, o81 P, o82 P, o83 P, o84 P, o85 P, o86 P, o87 P, o88 P, o89 P, o90 P, o91 P, o92 P, o93 P, o94 P, o95 P, o96 P, o97 P, o98 P, o99 P, o100 P, o101 P, o102 P, o103 P, o104 P, o105 P, o106 P, o107 P, o108 P, o109 P, o110 P, o111 P, o112 P, o113 P, o114 P, o115 P, o116 P, o117 P, o118 P, o119 P, o120 P, o121 P, o122 P, o123 P, o124 P, o125 P, o126 P, o127 P, o128 P, o129 P, o130 P, o131 P, o132 P, o133 P, o134 P, o135 P, o136 P, o137 P, o138 P, o139 P, o140 P, o141 P, o142 P, o143 P, o144 P, o145 P, o146 P, o147 P, o148 P, o149 P, o150 P, o151 P, o152 P, o153 P, o154 P, o155 P, o156 P, o157 P, o158 P, o159 P, o160 P, o161 P, o162 P, o163 P, o164 P, o165 P, o166 P, o167 P, o168 P, o169 P, o170 P, o171 P, o172 P, o173 P, o174 P, o175 P, o176 P, o177 P, o178 P, o179 P, o180 P, o181 P, o182 P, o183 P, o184 P, o185 P, o186 P, o187 P, o188 P, o189 P, o190 P, o191 P, o192 P, o193 P, o194 P, o195 P, o196 P, o197 P, o198 P, o199 P, o200 P, o201 P, o202 P, o203 P, o204 P, o205 P, o206 P, o207 P, o208 P, o209 P, o210 P, o211 P, o212 P, o213 P, o214 P, o215 P, o216 P, o217 P, o218 P, o219 P, o220 P, o221 P, o222 P, o223 P, o224 P, o225 P, o226 P, o227 P, o228 P, o229 P, o230 P, o231 P, o232 P, o233 P, o234 P, o235 P, o236 P, o237 P, o238 P, o239 P, o240 P, o241 P, o242 P, o243 P, o244 P, o245 P, o246 P, o247 P, o248 P, o249 P, o250 P, o251 P, o252 P, o253 P, o254 P, o255 P, o256 P, o257 P, o258 P, o259 P, o260 P, o261 P, o262 P, o263 P, o264 P, o265 P, o266 P, o267 P, o268 P, o269 P, o270 P, o271 P, o272 P, o273 P, o274 P, o275 P, o276 P, o277 P, o278 P, o279 P, o280 P, o281 P, o282 P, o283 P, o284 P, o285 P, o286 P, o287 P, o288 P, o289 P, o290 P, o291 P, o292 P, o293 P, o294 P, o295 P, o296 P, o297 P, o298 P, o299 P, o300 P, o301 P, o302 P, o303 P, o304 P, o305 P, o306 P, o307 P, o308 P, o309 P, o310 P, o311 P, o312 P, o313 P, o314 P, o315 P, o316 P, o317 P, o318 P, o319 P, o320 P, o321 P, o322 P, o323 P, o324 P, o325 P, o326 P, o327 P, o328 P, o329 P, o330 P, o331 P, o332 P, o333 P, o334 P, o335 P, o336 P, o337 P, o338 P, o339 P, o340 P, o341 P, o342 P, o343 P, o344 P, o345 P, o346 P, o347 P, o348 P, o349 P, o350 P, o351 P, o352 P, o353 P, o354 P, o355 P, o356 P, o357 P, o358 P, o359 P, o360 P, o361 P, o362 P, o363 P, o364 P, o365 P, o366 P, o367 P, o368 P, o369 P, o370 P, o371 P, o372 P, o373 P, o374 P, o375 P, o376 P, o377 P, o378 P, o379 P, o380 P, o381 P, o382 P, o383 P, o384 P, o385 P, o386 P, o387 P, o388 P, o389 P, o390 P, o391 P, o392 P, o393 P, o394 P, o395 P, o396 P, o397 P, o398 P, o399 P, o400 P, o401 P, o402 P, o403 P, o404 P, o405 P, o406 P, o407 P, o408 P, o409 P, o410 P, o411 P, o412 P, o413 P, o414 P, o415 P, o416 P, o417 P, o418 P, o419 P, o420 P, o421 P, o422 P, o423 P, o424 P, o425 P, o426 P, o427 P, o428 P, o429 P, o430 P, o431 P, o432 P, o433 P, o434 P, o435 P, o436 P, o437 P, o438 P, o439 P, o440 P, o441 P, o442 P, o443 P, o444 P, o445 P, o446 P, o447 P, o448 P, o449 P, o450 P, o451 P, o452 P, o453 P, o454 P, o455 P, o456 P, o457 P, o458 P, o459 P, o460 P, o461 P, o462 P, o463 P, o464 P, o465 P, o466 P, o467 P, o468 P, o469 P, o470 P, o471 P, o472 P, o473 P, o474 P, o475 P, o476 P, o477 P, o478 P, o479 P, o480 P, o481 P, o482 P, o483 P, o484 P, o485 P, o486 P, o487 P, o488 P, o489 P, o490 P, o491 P, o492 P, o493 P, o494 P, o495 P, o496 P, o497 P, o498 P, o499 P, o500 P, o501 P, o502 P, o503 P, o504 P, o505 P, o506 P, o507 P, o508 P, o509 P, o510 P, o511 P, o512 P, o513 P, o514 P, o515 P, o516 P, o517 P, o518 P, o519 P, o520 P, o521 P, o522 P, o523 P, o524 P, o525 P, o526 P, o527 P, o528 P, o529 P, o530 P, o531 P, o532 P, o533 P, o534 P, o535 P, o536 P, o537 P, o538 P, o539 P, o540 P, o541 P, o542 P, o543 P, o544 P, o545 P, o546 P, o547 P, o548 P, o549 P, o550 P, o551 P, o552 P, o553 P, o554 P, o555 P, o556 P, o557 P, o558 P, o559 P, o560 P, o561 P, o562 P, o563 P, o564 P, o565 P, o566 P, o567 P, o568 P, o569 P, o570 P, o571 P, o572 P, o573 P, o574 P, o575 P, o576 P, o577 P, o578 P, o579 P, o580 P, o581 P, o582 P, o583 P, o584 P, o585 P, o586 P, o587 P, o588 P, o589 P, o590 P, o591 P, o592 P, o593 P, o594 P, o595 P, o596 P, o597 P, o598 P, o599 P, o600 P, o601 P, o602 P, o603 P, o604 P, o605 P, o606 P, o607 P, o608 P, o609 P, o610 P, o611 P, o612 P, o613 P, o614 P, o615 P, o616 P, o617 P, o618 P, o619 P, o620 P, o621 P, o622 P, o623 P, o624 P, o625 P, o626 P, o627 P, o628 P, o629 P, o630 P, o631 P, o632 P, o633 P, o634 P, o635 P, o636 P, o637 P, o638 P, o639 P, o640 P, o641 P, o642 P, o643 P, o644 P, o645 P, o646 P, o647 P, o648 P, o649 P, o650 P, o651 P, o652 P, o653 P, o654 P, o655 P, o656 P, o657 P, o658 P, o659 P, o660 P, o661 P, o662 P, o663 P, o664 P, o665 P, o666 P, o667 P, o668 P, o669 P, o670 P, o671 P, o672 P, o673 P, o674 P, o675 P, o676 P, o677 P, o678 P, o679 P, o680 P, o681 P, o682 P, o683 P, o684 P, o685 P, o686 P, o687 P, o688 P, o689 P, o690 P, o691 P, o692 P, o693 P, o694 P, o695 P, o696 P, o697 P, o698 P, o699 P, o700 P, o701 P, o702 P, o703 P, o704 P, o705 P, o706 P, o707 P, o708 P, o709 P, o710 P, o711 P, o712 P, o713 P, o714 P, o715 P, o716 P, o717 P, o718 P, o719 P, o720 P, o721 P, o722 P, o723 P, o724 P, o725 P, o726 P, o727 P, o728 P, o729 P, o730 P, o731 P, o732 P, o733 P, o734 P, o735 P, o736 P, o737 P, o738 P, o739 P, o740 P, o741 P, o742 P, o743 P, o744 P, o745 P, o746 P, o747 P, o748 P, o749 P, o750 P, o751 P, o752 P, o753 P, o754 P, o755 P, o756 P, o757 P, o758 P, o759 P, o760 P, o761 P, o762 P, o763 P, o764 P, o765 P, o766 P, o767 P, o768 P, o769 P, o770 P, o771 P, o772 P, o773 P, o774 P, o775 P, o776 P, o777 P, o778 P, o779 P, o780 P, o781 P, o782 P, o783 P, o784 P, o785 P, o786 P, o787 P, o788 P, o789 P, o790 P, o791 P, o792 P, o793 P, o794 P, o795 P, o796 P, o797 P, o798 P, o799 P, o800 P, o801 P, o802 P, o803 P, o804 P, o805 P, o806 P, o807 P, o808 P, o809 P, o810 P, o811 P, o812 P, o813 P, o814 P, o815 P, o816 P, o817 P, o818 P, o819 P, o820 P]⟩, {}⟩
theorem fin (w : World) (os : OsState) : topRun treeTable PW w 11 an0 2 (S13 w os).abs ⟨doneF .next, cE, ⟨703, 0, 738, 15⟩, fr0⟩ = some ⟨hZ w.params, #[], {}, 1370, os⟩ := by
  rewrite [TE_topRun, TE_tree]
  kernel_rfl
theorem bd_eq : bd = (g0 ++ (g1 ++ (g2 ++ (g3 ++ (g4 ++ (g5 ++ (g6 ++ (g7 ++ (g8 ++ (g9 ++ (g10 ++ (g11 ++ (g12 ++ []))))))))))))) := by kernel_rfl
theorem run (w : World) (os : OsState) : topRun treeTable PW w 11 an0 4648 ⟨boot_heap w.params, #[], boot_drawn, boot_toks, os⟩ (topStub PW) = some ⟨hZ w.params, #[], {}, 1370, os⟩ :=
  go_top (N := 4636) (pre w os) (piece_block (N := 4635) (block w os) (by
    rewrite [show restOf bd env0 cE ⟨0, 0, 0, 0⟩ fr0 = restOf (g0 ++ (g1 ++ (g2 ++ (g3 ++ (g4 ++ (g5 ++ (g6 ++ (g7 ++ (g8 ++ (g9 ++ (g10 ++ (g11 ++ (g12 ++ []))))))))))))) env0 cE ⟨0, 0, 0, 0⟩ fr0 from congrArg (fun l => restOf l env0 cE ⟨0, 0, 0, 0⟩ fr0) bd_eq]
    exact piece_app (pc0 w os) (piece_app (pc1 w os) (piece_app (pc2 w os) (piece_app (pc3 w os) (piece_app (pc4 w os) (piece_app (pc5 w os) (piece_app (pc6 w os) (piece_app (pc7 w os) (piece_app (pc8 w os) (piece_app (pc9 w os) (piece_app (pc10 w os) (piece_app (pc11 w os) (piece_app (pc12 w os) (piece_nil (fin w os))))))))))))))))
end
end
section
set_option maxRecDepth 100000
set_option maxHeartbeats 0
section
theorem TE_importedModules : @importedModules = PySem.W.Fast.tw5923862056798008813 := PySem.W.Fast.te5923862056798008813
theorem TE_seen : @seen = PySem.W.Fast.tw5160383126252970620 := PySem.W.Fast.te5160383126252970620
theorem TE_recsOf : @recsOf = PySem.W.Fast.tw3399658132070893891 := PySem.W.Fast.te3399658132070893891
theorem TE_ownsOf : @ownsOf = PySem.W.Fast.tw5991557255702980513 := PySem.W.Fast.te5991557255702980513
theorem TE_keysOk : @Heap.keysOk = PySem.W.Fast.tw10880121769531294198 := PySem.W.Fast.te10880121769531294198
theorem TE_accountedOkI : @Heap.accountedOkI = PySem.W.Fast.tw14722251495701143533 := PySem.W.Fast.te14722251495701143533
theorem TE_tablesOk : @tablesOk = PySem.W.Fast.tw10994771534591457954 := PySem.W.Fast.te10994771534591457954
theorem TE_tabsOk : @tabsOk = PySem.W.Fast.tw479339242167458305 := PySem.W.Fast.te479339242167458305
theorem TE_pinSeenD : @pinSeenD = PySem.W.Fast.tw16090120013241838585 := PySem.W.Fast.te16090120013241838585
theorem TE_plainSeenE : @plainSeenE = PySem.W.Fast.tw2386780881361962483 := PySem.W.Fast.te2386780881361962483
theorem TE_plainSeenD : @plainSeenD = PySem.W.Fast.tw11698064438423848299 := PySem.W.Fast.te11698064438423848299
theorem TE_wideSeen : @wideSeen = PySem.W.Fast.tw7317090234206586261 := PySem.W.Fast.te7317090234206586261
theorem TE_clsSeenW : @clsSeenW = PySem.W.Fast.tw7369524293546568484 := PySem.W.Fast.te7369524293546568484
theorem TE_looseW : @looseW = PySem.W.Fast.tw821141287760084731 := PySem.W.Fast.te821141287760084731
theorem TE_litsOf : @litsOf = PySem.W.Fast.tw7409074990110511671 := PySem.W.Fast.te7409074990110511671
theorem TE_clssOf : @clssOf = PySem.W.Fast.tw13664370479719496447 := PySem.W.Fast.te13664370479719496447
noncomputable def loose0 : List Str := [.ofString "_wall", .ofString "GateloomError", .ofString "DesignError", .ofString "mask", .ofString "vec", .ofString "zeros", .ofString "all_x", .ofString "all_z", .ofString "from_int", .ofString "is_known", .ofString "to_int", .ofString "code", .ofString "slice_vec", .ofString "put_slice", .ofString "concat", .ofString "extend", .ofString "z_to_x", .ofString "truth", .ofString "add", .ofString "sub", .ofString "mul", .ofString "neg", .ofString "quotient", .ofString "div", .ofString "mod", .ofString "raise_whole", .ofString "power", .ofString "shift_left", .ofString "shift_right", .ofString "shift_arith", .ofString "ordered", .ofString "less", .ofString "less_equal", .ofString "greater", .ofString "greater_equal", .ofString "one_bit", .ofString "bit_not", .ofString "bit_and", .ofString "bit_or", .ofString "bit_xor", .ofString "bit_xnor", .ofString "reduce_and", .ofString "reduce_nand", .ofString "reduce_or", .ofString "reduce_nor", .ofString "reduce_xor", .ofString "reduce_xnor", .ofString "logic_not", .ofString "logic_and", .ofString "logic_or", .ofString "equal", .ofString "not_equal", .ofString "case_equal", .ofString "case_not_equal", .ofString "choose", .ofString "unary", .ofString "arithmetic", .ofString "comparison", .ofString "bitwise", .ofString "binary", .ofString "whole_of", .ofString "memory_word", .ofString "picked", .ofString "conditional", .ofString "bits_needed", .ofString "system_value", .ofString "evaluate", .ofString "locate", .ofString "holder_width", .ofString "resolve_target", .ofString "store_rows", .ofString "net_kinds", .ofString "Signal", .ofString "Design", .ofString "Store", .ofString "Context", .ofString "_law_row", .ofString "_law_next", .ofString "_law_bits", .ofString "_law_made", .ofString "_law_const", .ofString "_law_whole", .ofString "_law_amount", .ofString "_law_part", .ofString "_law_source", .ofString "_law_low", .ofString "_law_write"]
noncomputable def qv : Program := view PW [95]
noncomputable def X1 (s : Shared) : Bool := true
noncomputable abbrev sZ (w : World) (os : OsState) : Shared := ⟨hZ w.params, #[], {}, 1370, os⟩
theorem op_eq : opening PW = plainProg PW.main.scope.names := by kernel_rfl
theorem fence_eq (s : Shared) : fenceModules? PW s = some s := by kernel_rfl
theorem size_eq (w : World) : ((boot_heap w.params).isNs mainGlobals && (#[] : Array GenState).size == 0, (boot_heap w.params).objs.size, (boot_heap w.params).nsMap mainGlobals "__annotations__") = (true, 11, an0) := by kernel_rfl
theorem look0 (w : World) (os : OsState) : (staticsOk (importedModules PW.main.body) (boot_heap w.params) (hZ w.params) && namesBound PW (hZ w.params) && gensDone (sZ w os) && laidKept (boot_heap w.params) (hZ w.params)) = true := by
  rewrite [TE_importedModules]
  kernel_rfl
theorem look1 (w : World) (os : OsState) : seen ((recsOf qv).map (·.name)) (ownsOf qv) [] { sZ w os with gens := #[] } = expectedOf qv := by
  rewrite [TE_recsOf, TE_ownsOf, TE_seen]
  kernel_rfl
theorem look2 (w : World) (os : OsState) : (sZ w os).heap.bltView = bltViewBooted := by kernel_rfl
theorem look3 (w : World) (os : OsState) : ((sZ w os).heap.keysOk (looseW qv loose0) ((recsOf qv).map (·.name)) ((litsOf qv).map (·.1)) ((clssOf qv (looseW qv loose0)).map (·.name)) && (sZ w os).heap.accountedOkI (importedModules PW.main.body) && (sZ w os).heap.isNs mainGlobals && (sZ w os).heap.isNs builtinsNs && tablesOk qv (sZ w os).heap && X1 (sZ w os) && (if true then (sZ w os).gens.size == 0 else !leftWithCleanup (sZ w os).gens)) = true := by
  rewrite [TE_looseW, TE_litsOf, TE_clssOf, TE_recsOf, TE_importedModules, TE_keysOk, TE_accountedOkI, TE_tablesOk]
  kernel_rfl
theorem look4 (w : World) (os : OsState) : tabsOk qv (sZ w os) = true := by
  rewrite [TE_tabsOk]
  kernel_rfl
theorem look5 (w : World) (os : OsState) : pinSeenD qv (drecsOf qv) (sZ w os) = pinGoodD (drecsOf qv) := by
  rewrite [TE_pinSeenD]
  kernel_rfl
theorem look6 (w : World) (os : OsState) : plainSeenE qv (looseW qv loose0) (sZ w os) = plainGoodE qv (looseW qv loose0) := by
  rewrite [TE_plainSeenE, TE_looseW]
  kernel_rfl
theorem look7 (w : World) (os : OsState) : plainSeenD qv loose0 (sZ w os) = plainGoodD qv loose0 := by
  rewrite [TE_plainSeenD]
  kernel_rfl
theorem look8 (w : World) (os : OsState) : wideSeen qv (sZ w os) = wideGood qv := by
  rewrite [TE_wideSeen]
  kernel_rfl
theorem look9 (w : World) (os : OsState) : clsSeenW qv loose0 (sZ w os) = clsGoodW qv loose0 := by
  rewrite [TE_clsSeenW]
  kernel_rfl
theorem seen_all (w : World) (os : OsState) : openSeen qv loose0 (importedModules PW.main.body) X1 true (sZ w os) = openGood qv loose0 :=
  looks_pair (look1 w os) (looks_pair (look2 w os) (looks_pair (look3 w os) (looks_pair (look4 w os) (looks_pair (look5 w os) (looks_pair (look6 w os) (looks_pair (look7 w os) (looks_pair (look8 w os) (look9 w os))))))))
end
end
section
set_option maxRecDepth 100000
set_option maxHeartbeats 0
section
noncomputable def K0 (P : Params) : Frag := [(0, boot_o_0 P), (1, boot_o_1 P), (2, o2v1 P), (3, o3v13 P), (4, boot_o_4 P), (5, boot_o_5 P), (6, boot_o_6 P), (7, boot_o_7 P), (8, boot_o_8 P), (9, boot_o_9 P), (10, boot_o_10 P), (60, o60 P), (61, o61 P), (82, o82 P), (83, o83 P), (89, o89 P), (90, o90 P), (110, o110 P), (111, o111 P), (124, o124 P), (125, o125 P), (131, o131 P), (132, o132 P), (460, o460 P), (461, o461 P), (500, o500 P), (501, o501 P), (507, o507 P), (508, o508 P), (514, o514 P), (515, o515 P), (521, o521 P), (522, o522 P), (528, o528 P), (529, o529 P), (535, o535 P), (536, o536 P), (549, o549 P), (550, o550 P), (556, o556 P), (557, o557 P), (570, o570 P), (571, o571 P), (584, o584 P), (585, o585 P), (587, o587 P), (588, o588 P), (605, o605 P), (606, o606 P), (612, o612 P), (613, o613 P), (650, o650 P), (651, o651 P), (668, o668 P), (669, o669 P), (675, o675 P), (676, o676 P), (682, o682 P), (683, o683 P), (689, o689 P), (690, o690 P), (692, o692 P), (693, o693 P), (705, o705 P), (711, o711 P), (712, o712 P), (735, o735 P), (736, o736 P), (746, o746 P), (747, o747 P), (753, o753 P), (754, o754 P), (760, o760 P), (761, o761 P), (767, o767 P), (768, o768 P), (774, o774 P), (775, o775 P), (781, o781 P), (782, o782 P), (786, o786 P), (787, o787 P), (793, o793 P), (794, o794 P), (800, o800 P), (801, o801 P), (807, o807 P), (808, o808 P), (814, o814 P), (815, o815 P), (819, o819 P), (820, o820 P)]
noncomputable def asK : List Addr := [0, 1, 2, 3, 4, 5, 6, 7, 8, 9, 10, 60, 61, 82, 83, 89, 90, 110, 111, 124, 125, 131, 132, 460, 461, 500, 501, 507, 508, 514, 515, 521, 522, 528, 529, 535, 536, 549, 550, 556, 557, 570, 571, 584, 585, 587, 588, 605, 606, 612, 613, 650, 651, 668, 669, 675, 676, 682, 683, 689, 690, 692, 693, 705, 711, 712, 735, 736, 746, 747, 753, 754, 760, 761, 767, 768, 774, 775, 781, 782, 786, 787, 793, 794, 800, 801, 807, 808, 814, 815, 819, 820]
theorem asK_eq (P : Params) : asK = (K0 P).map (·.1) := by kernel_rfl
theorem lookK (w : World) (os : OsState) : asK.map (sZ w os).heap.get? = (K0 w.params).map fun p => some p.2 := by kernel_rfl
theorem left : LeftO PW qv loose0 X1 (fun s => asK.map s.heap.get?) (fun w => (K0 w.params).map fun p => some p.2) 20000 :=
  LeftO.of_pieces (H₀ := boot_heap) (H₁ := hZ) (gs₀ := #[]) (gs₁ := #[]) (d₀ := boot_drawn) (d₁ := {}) (k₀ := boot_toks) (k₁ := 1370) (m₀ := 11) (ann := an0) (M := 4648)
    (boot_open op_eq (by decide +kernel) fence_eq) size_eq run (by decide +kernel)
    (fun w => funext fun os => looks_pair (look0 w os) (looks_pair (seen_all w os) (lookK w os)))
end
end
section
set_option maxRecDepth 100000
set_option maxHeartbeats 0
section
noncomputable abbrev RW : OpenLaw := PySem.Challenge.rw_nn0334_01
theorem and_t {a b : Bool} (x : a = true) (y : b = true) : (a && b) = true := by rw [x, y]; rfl
theorem said : OpenLaw.wellSaid RW = true := by
  rewrite [show OpenLaw.wellSaid = _ from PySem.W.Fast.te9446332074065402090]
  delta PySem.W.Fast.tw9446332074065402090
  with_reducible repeat' (refine and_t ?_ ?_)
  all_goals try (delta PySem.W.Fast.tw17960256430627541270; with_reducible repeat' (refine and_t ?_ ?_))
  all_goals try (delta PySem.W.Fast.tw2436336058641802641; with_reducible repeat' (refine and_t ?_ ?_))
  all_goals try (delta PySem.W.Fast.tw12908688711261696721; with_reducible repeat' (refine and_t ?_ ?_))
  all_goals decide +kernel
noncomputable def Yf0 (s : Shared) : List (Option Obj) := asK.map s.heap.get?
noncomputable def Ya0 (w : World) : List (Option Obj) := (K0 w.params).map fun p => some p.2
theorem left' : LeftO RW.row.toRowW.prog qv loose0 X1 Yf0 Ya0 20000 := left
theorem okq1 : chainsOk qv = true := by decide +kernel
theorem okq2 : opensWell PW = true := by decide +kernel
theorem okq3 : (frees RW.row.toRowW && RW.row.toRowW.within.isEmpty) = true := by decide +kernel
theorem bare0 : RW.row.prog.bare := ⟨rfl, rfl, rfl, rfl, rfl, by decide +kernel⟩
theorem prom0 : RW.row.toRowW.promised := ⟨[.list []], by decide +kernel, by decide +kernel⟩
theorem okq : (chainsOk qv && opensWell RW.row.prog && (frees RW.row.toRowW && RW.row.toRowW.within.isEmpty)) = true := by
  rw [okq1, okq3, show opensWell RW.row.prog = true from okq2]; rfl
theorem holds_of (call : ∀ d kwd, defOf qv RW.row.name = some (d, kwd) → WalkO qv loose0 (fun _ _ => True) (InK K0) RW.row.toRowW d kwd fun f vs => PySem.call f vs) : RW.Holds :=
  holds_law said fun h => PySem.W.holds_open (r := RW.row) (q := qv) (loose := loose0) (Xt := X1) (XP := fun _ _ => True) (Yf := Yf0) (Ya := Ya0) (YP := InK K0) (N := 20000) left'
    (InK.of asK_eq) InK.keeps (fun _ _ => trivial) (fun _ _ _ _ _ => trivial) (by rfl) (by rfl) (by rfl) (fun s _ => recFacts_nil rfl) (by rfl) h okq bare0 prom0 (call _ _ (by rfl))
end
end
section
set_option maxRecDepth 20000
noncomputable abbrev FG (c : Cx) (x : Str) (a : Addr) (s : Stmt) : Prop := Gl c x (.ref a) ∧ FnAt c a s
structure Mt (K : Frag) (C : Addr) (x : Str) (f : Addr) : Prop where
  fd : findIn K (.ref C) x = some (some (.ref f))
  ty : typeIn K (.ref f) = some (.type "function")
noncomputable abbrev At (K : Frag) (C : Addr) (x : Str) : Prop := findIn K (.ref C) x = some none
structure Cs (c : Cx) (K : Frag) (x : Str) (C : Addr) : Prop where
  gl : Gl c x (.ref C)
  pl : Pl K C
  mks : makesIn K C = true
  kp : keepIn K (.ref C) = true
noncomputable def FnAtD (c : Cx) (f : Addr) (st : Stmt) (df : Addr) : Prop := ∃ name qual doc pm an cdv ct oc od osl,
  c.B.get? f = some ⟨oc, od, .func (fnOf name qual (fdParams st) (fdBody st) (fdScope st) (.ref df) .none doc pm an cdv ct), osl⟩ ∧ c.B.CodeRec cdv qual
structure Ps (c : Cx) (K : Frag) : Prop extends Gd c where
  X : K.In c.B
  f_mask : FG c (Str.ofString "mask") 61 (st 5)
  f_all_x : FG c (Str.ofString "all_x") 83 (st 8)
  f_to_int : FG c (Str.ofString "to_int") 111 (st 12)
  f_slice_vec : FG c (Str.ofString "slice_vec") 125 (st 14)
  f_put_slice : FG c (Str.ofString "put_slice") 132 (st 15)
  f_whole_of : FG c (Str.ofString "whole_of") 461 (st 65)
  f_evaluate : FG c (Str.ofString "evaluate") 501 (st 71)
  f_locate : FG c (Str.ofString "locate") 508 (st 72)
  f_holder_width : FG c (Str.ofString "holder_width") 515 (st 73)
  f_resolve_target : FG c (Str.ofString "resolve_target") 522 (st 74)
  f_store_rows : FG c (Str.ofString "store_rows") 529 (st 75)
  f_net_kinds : FG c (Str.ofString "net_kinds") 536 (st 77)
  f__law_row : FG c (Str.ofString "_law_row") 747 (st 84)
  f__law_next : FG c (Str.ofString "_law_next") 754 (st 85)
  f__law_bits : FG c (Str.ofString "_law_bits") 761 (st 86)
  f__law_made : FG c (Str.ofString "_law_made") 768 (st 87)
  f__law_const : FG c (Str.ofString "_law_const") 775 (st 88)
  f__law_whole : FG c (Str.ofString "_law_whole") 782 (st 89)
  f__law_amount : FG c (Str.ofString "_law_amount") 787 (st 90)
  f__law_part : FG c (Str.ofString "_law_part") 794 (st 91)
  f__law_source : FG c (Str.ofString "_law_source") 801 (st 92)
  f__law_low : FG c (Str.ofString "_law_low") 808 (st 93)
  f__law_write : FG c (Str.ofString "_law_write") 815 (st 94)
  m_Signal_init : FnAt c 550 (ms 78 0)
  m_Signal_is_net : FnAt c 557 (ms 78 1)
  m_Signal_words : FnAt c 571 (ms 78 3)
  m_Signal_place : FnAt c 585 (ms 78 5)
  m_Design_init : FnAt c 606 (ms 79 0)
  m_Design_add_signal : FnAt c 613 (ms 79 1)
  m_Store_init : FnAt c 669 (ms 81 0)
  m_Store_get : FnAt c 676 (ms 81 1)
  m_Store_word : FnAt c 683 (ms 81 2)
  m_Store_set_bits : FnAt c 690 (ms 81 3)
  m_Context_init : FnAtD c 712 (ms 82 0) 705
  d_Context : ∃ t, c.B.get? 705 = some { cls := .type "tuple", data := .seq #[.int 0 t] 0 }
  c_Signal : Cs c K (Str.ofString "Signal") 588
  t_Signal___init__ : Mt K 588 (Str.ofString "__init__") 550
  t_Signal_is_net : Mt K 588 (Str.ofString "is_net") 557
  t_Signal_words : Mt K 588 (Str.ofString "words") 571
  t_Signal_place : Mt K 588 (Str.ofString "place") 585
  a_Signal_key : At K 588 (Str.ofString "key")
  a_Signal_path : At K 588 (Str.ofString "path")
  a_Signal_kind : At K 588 (Str.ofString "kind")
  a_Signal_width : At K 588 (Str.ofString "width")
  a_Signal_signed : At K 588 (Str.ofString "signed")
  a_Signal_msb : At K 588 (Str.ofString "msb")
  a_Signal_lsb : At K 588 (Str.ofString "lsb")
  a_Signal_first : At K 588 (Str.ofString "first")
  a_Signal_last : At K 588 (Str.ofString "last")
  a_Signal_init : At K 588 (Str.ofString "init")
  a_Signal_at : At K 588 (Str.ofString "at")
  a_Signal_scalar : At K 588 (Str.ofString "scalar")
  s_Signal_key : takerIn K 588 (Str.ofString "key") = some none
  s_Signal_path : takerIn K 588 (Str.ofString "path") = some none
  s_Signal_kind : takerIn K 588 (Str.ofString "kind") = some none
  s_Signal_width : takerIn K 588 (Str.ofString "width") = some none
  s_Signal_signed : takerIn K 588 (Str.ofString "signed") = some none
  s_Signal_msb : takerIn K 588 (Str.ofString "msb") = some none
  s_Signal_lsb : takerIn K 588 (Str.ofString "lsb") = some none
  s_Signal_first : takerIn K 588 (Str.ofString "first") = some none
  s_Signal_last : takerIn K 588 (Str.ofString "last") = some none
  s_Signal_init : takerIn K 588 (Str.ofString "init") = some none
  s_Signal_at : takerIn K 588 (Str.ofString "at") = some none
  s_Signal_scalar : takerIn K 588 (Str.ofString "scalar") = some none
  c_Design : Cs c K (Str.ofString "Design") 651
  t_Design___init__ : Mt K 651 (Str.ofString "__init__") 606
  t_Design_add_signal : Mt K 651 (Str.ofString "add_signal") 613
  a_Design_signals : At K 651 (Str.ofString "signals")
  a_Design_assigns : At K 651 (Str.ofString "assigns")
  a_Design_gates : At K 651 (Str.ofString "gates")
  a_Design_udps : At K 651 (Str.ofString "udps")
  a_Design_processes : At K 651 (Str.ofString "processes")
  a_Design_routines : At K 651 (Str.ofString "routines")
  a_Design_scopes : At K 651 (Str.ofString "scopes")
  a_Design_tops : At K 651 (Str.ofString "tops")
  a_Design_ports : At K 651 (Str.ofString "ports")
  a_Design_maker : At K 651 (Str.ofString "maker")
  a_Design_by_path : At K 651 (Str.ofString "by_path")
  s_Design_signals : takerIn K 651 (Str.ofString "signals") = some none
  s_Design_assigns : takerIn K 651 (Str.ofString "assigns") = some none
  s_Design_gates : takerIn K 651 (Str.ofString "gates") = some none
  s_Design_udps : takerIn K 651 (Str.ofString "udps") = some none
  s_Design_processes : takerIn K 651 (Str.ofString "processes") = some none
  s_Design_routines : takerIn K 651 (Str.ofString "routines") = some none
  s_Design_scopes : takerIn K 651 (Str.ofString "scopes") = some none
  s_Design_tops : takerIn K 651 (Str.ofString "tops") = some none
  s_Design_ports : takerIn K 651 (Str.ofString "ports") = some none
  s_Design_maker : takerIn K 651 (Str.ofString "maker") = some none
  s_Design_by_path : takerIn K 651 (Str.ofString "by_path") = some none
  c_Store : Cs c K (Str.ofString "Store") 693
  t_Store___init__ : Mt K 693 (Str.ofString "__init__") 669
  t_Store_get : Mt K 693 (Str.ofString "get") 676
  t_Store_word : Mt K 693 (Str.ofString "word") 683
  t_Store_set_bits : Mt K 693 (Str.ofString "set_bits") 690
  a_Store_signals : At K 693 (Str.ofString "signals")
  a_Store_values : At K 693 (Str.ofString "values")
  a_Store_memories : At K 693 (Str.ofString "memories")
  a_Store_random_seed : At K 693 (Str.ofString "random_seed")
  s_Store_signals : takerIn K 693 (Str.ofString "signals") = some none
  s_Store_values : takerIn K 693 (Str.ofString "values") = some none
  s_Store_memories : takerIn K 693 (Str.ofString "memories") = some none
  s_Store_random_seed : takerIn K 693 (Str.ofString "random_seed") = some none
  c_Context : Cs c K (Str.ofString "Context") 736
  t_Context___init__ : Mt K 736 (Str.ofString "__init__") 712
  a_Context_store : At K 736 (Str.ofString "store")
  a_Context_frame : At K 736 (Str.ofString "frame")
  a_Context_now : At K 736 (Str.ofString "now")
  s_Context_store : takerIn K 736 (Str.ofString "store") = some none
  s_Context_frame : takerIn K 736 (Str.ofString "frame") = some none
  s_Context_now : takerIn K 736 (Str.ofString "now") = some none
  b_max : Gl c (Str.ofString "max") (.builtin "max")
  b_min : Gl c (Str.ofString "min") (.builtin "min")
  b_abs : Gl c (Str.ofString "abs") (.builtin "abs")
  b_len : Gl c (Str.ofString "len") (.builtin "len")
  b_range : Gl c (Str.ofString "range") (.type "range")
  b_sorted : Gl c (Str.ofString "sorted") (.builtin "sorted")
  b_tuple : Gl c (Str.ofString "tuple") (.type "tuple")
  b_list : Gl c (Str.ofString "list") (.type "list")
  b_sum : Gl c (Str.ofString "sum") (.builtin "sum")
end
section
set_option maxRecDepth 20000
theorem or_xor_and : ∀ (n x y : Nat), x ≤ n → x ||| y = (x ^^^ y) + (x &&& y)
  | 0, x, y, h => by
    have : x = 0 := by omega
    subst this; simp
  | n + 1, x, y, h => by
    by_cases h0 : x = 0
    · subst h0; simp
    · have ih := or_xor_and n (x / 2) (y / 2) (by omega)
      have e1 : (x ||| y) / 2 = x / 2 ||| y / 2 := Nat.or_div_two
      have e2 : (x ^^^ y) / 2 = x / 2 ^^^ y / 2 := Nat.xor_div_two
      have e3 : (x &&& y) / 2 = x / 2 &&& y / 2 := Nat.and_div_two
      have m1 : (x ||| y) % 2 = 1 ↔ x % 2 = 1 ∨ y % 2 = 1 := Nat.or_mod_two_eq_one
      have m2 : (x ^^^ y) % 2 = 1 ↔ ¬ (x % 2 = 1 ↔ y % 2 = 1) := Nat.xor_mod_two_eq_one
      have m3 : (x &&& y) % 2 = 1 ↔ x % 2 = 1 ∧ y % 2 = 1 := Nat.and_mod_two_eq_one
      generalize x ||| y = o at *
      generalize x ^^^ y = q at *
      generalize x &&& y = a at *
      have hx := Nat.mod_two_eq_zero_or_one x
      have hy := Nat.mod_two_eq_zero_or_one y
      have ho := Nat.mod_two_eq_zero_or_one o
      have hq := Nat.mod_two_eq_zero_or_one q
      have ha := Nat.mod_two_eq_zero_or_one a
      rcases hx with hx | hx <;> rcases hy with hy | hy <;> rcases ho with ho | ho <;> rcases hq with hq | hq <;> rcases ha with ha | ha <;> simp [hx, hy, ho, hq, ha] at m1 m2 m3 <;> omega
theorem band_nat (x y : Nat) : Builtin.bitAnd (x : Int) y = ((x &&& y : Nat) : Int) := by
  unfold Builtin.bitAnd
  rw [decide_eq_true (Int.natCast_nonneg x), decide_eq_true (Int.natCast_nonneg y)]
  rfl
theorem bor_nat (x y : Nat) : Builtin.bitOr (x : Int) y = ((x ||| y : Nat) : Int) := by
  unfold Builtin.bitOr Builtin.bitAnd
  have h : ∀ z : Nat, decide (0 ≤ Builtin.bitNot (z : Int)) = false := fun z => decide_eq_false (by unfold Builtin.bitNot; omega)
  rw [h, h]
  have h2 : ∀ z : Nat, (Builtin.bitNot (Builtin.bitNot (z : Int))) = z := fun z => by unfold Builtin.bitNot; omega
  simp only [h2, Int.toNat_natCast]
theorem bxor_nat (x y : Nat) : Builtin.bitXor (x : Int) y = ((x ^^^ y : Nat) : Int) := by
  unfold Builtin.bitXor
  rw [bor_nat, band_nat, or_xor_and x x y (Nat.le_refl _)]
  omega
theorem shl_nat (x k : Nat) : (x : Int) * 2 ^ k = ((x <<< k : Nat) : Int) := by
  rw [Nat.shiftLeft_eq]; push_cast; rfl
theorem shr_nat (x k : Nat) : Int.fdiv (x : Int) (2 ^ k) = ((x >>> k : Nat) : Int) := by
  rw [Nat.shiftRight_eq_div_pow]
  have : (2 : Int) ^ k = ((2 ^ k : Nat) : Int) := by push_cast; rfl
  rw [this, Int.fdiv_eq_ediv_of_nonneg _ (Int.natCast_nonneg _)]
  rfl
noncomputable def enc (p : Nat → Bool) : List Nat → Nat
  | [] => 0
  | b :: r => (p b).toNat + 2 * enc p r
theorem enc_bit (p : Nat → Bool) : ∀ (l : List Nat) (i : Nat), (enc p l).testBit i = ((l[i]?).map p).getD false
  | [], i => by simp [enc]
  | b :: r, 0 => by
    simp only [enc, Nat.testBit_zero, List.getElem?_cons_zero, Option.map_some, Option.getD_some]
    cases p b <;> simp <;> omega
  | b :: r, i + 1 => by
    rw [Nat.testBit_succ, List.getElem?_cons_succ, ← enc_bit p r i]
    congr 1
    simp only [enc]
    cases p b <;> simp <;> omega
theorem enc_lt (p : Nat → Bool) : ∀ l : List Nat, enc p l < 2 ^ l.length
  | [] => by simp [enc]
  | b :: r => by
    have := enc_lt p r
    simp only [enc, List.length_cons, Nat.pow_succ]
    cases p b <;> simp <;> omega
theorem enc_snoc (p : Nat → Bool) (b : Nat) : ∀ l : List Nat, enc p (l ++ [b]) = enc p l + (p b).toNat * 2 ^ l.length
  | [] => by simp [enc]
  | c :: r => by
    simp only [List.cons_append, enc, enc_snoc p b r, List.length_cons, Nat.pow_succ]
    rw [Nat.mul_add, ← Nat.mul_assoc, Nat.add_assoc, Nat.mul_comm 2, Nat.mul_right_comm]
    congr 1
    congr 1
    ac_rfl
noncomputable def lo1 (b : Nat) : Bool := b % 2 == 1
noncomputable def hi1 (b : Nat) : Bool := b / 2 == 1
noncomputable def made (l : List Nat) : List Int := [(l.length : Int), (enc lo1 l : Int), (enc hi1 l : Int)]
noncomputable def Bits (l : List Nat) : Prop := ∀ b ∈ l, b < 4
theorem enc_inj {l l' : List Nat} (hb : Bits l) (hb' : Bits l') (hl : l.length = l'.length) (h1 : enc lo1 l = enc lo1 l') (h2 : enc hi1 l = enc hi1 l') : l = l' := by
  refine List.ext_getElem hl fun i h h' => ?_
  have a1 := enc_bit lo1 l i
  have a2 := enc_bit hi1 l i
  rw [h1, enc_bit, List.getElem?_eq_getElem h, List.getElem?_eq_getElem h'] at a1
  rw [h2, enc_bit, List.getElem?_eq_getElem h, List.getElem?_eq_getElem h'] at a2
  simp only [Option.map_some, Option.getD_some, lo1, hi1] at a1 a2
  have b1 := hb _ (List.getElem_mem h)
  have b2 := hb' _ (List.getElem_mem h')
  generalize l[i] = x at *
  generalize l'[i] = y at *
  have q1 : (x % 2 = 1) ↔ (y % 2 = 1) := by
    constructor <;> intro q
    · have : (y % 2 == 1) = true := by rw [a1]; simpa using q
      simpa using this
    · have : (x % 2 == 1) = true := by rw [← a1]; simpa using q
      simpa using this
  have q2 : (x / 2 = 1) ↔ (y / 2 = 1) := by
    constructor <;> intro q
    · have : (y / 2 == 1) = true := by rw [a2]; simpa using q
      simpa using this
    · have : (x / 2 == 1) = true := by rw [← a2]; simpa using q
      simpa using this
  omega
theorem made_inj {l l' : List Nat} (hb : Bits l) (hb' : Bits l') (h : made l = made l') : l = l' := by
  unfold made at h
  injection h with h1 h2
  injection h2 with h2 h3
  injection h3 with h3 h4
  exact enc_inj hb hb' (by omega) (by omega) (by omega)
theorem enc_slice (p : Nat → Bool) (l : List Nat) (t w : Nat) : enc p ((l.drop t).take w) = (enc p l >>> t) &&& (2 ^ w - 1) := by
  refine Nat.eq_of_testBit_eq fun i => ?_
  rw [Nat.testBit_and, Nat.testBit_shiftRight, Nat.testBit_two_pow_sub_one, enc_bit, enc_bit, List.getElem?_take, List.getElem?_drop]
  by_cases h : i < w
  · simp [h]
  · simp [h]
noncomputable def put (l : List Nat) (lo : Int) (p : List Nat) : List Nat := l.mapIdx fun i b => if lo ≤ i ∧ (i : Int) < lo + p.length then p.getD ((i : Int) - lo).toNat 0 else b
theorem put_len (l : List Nat) (lo : Int) (p : List Nat) : (put l lo p).length = l.length := by simp [put]
theorem put_bits {l p : List Nat} {lo : Int} (hl : Bits l) (hp : Bits p) : Bits (put l lo p) := by
  intro b hb
  obtain ⟨i, hi, e⟩ := List.mem_iff_getElem.mp hb
  simp only [put, List.getElem_mapIdx] at e
  rw [put_len] at hi
  split at e
  · rw [← e]
    rename_i h
    rw [List.getD_eq_getElem?_getD, List.getElem?_eq_getElem (by omega)]
    exact hp _ (List.getElem_mem _)
  · rw [← e]; exact hl _ (List.getElem_mem _)
theorem put_off {l p : List Nat} {lo : Int} (h : lo + p.length ≤ 0 ∨ (l.length : Int) ≤ lo) : put l lo p = l := by
  refine List.ext_getElem (put_len ..) fun i h1 h2 => ?_
  simp only [put, List.getElem_mapIdx]
  rw [if_neg (by omega)]
theorem put_nil (l : List Nat) (lo : Int) : put l lo [] = l := by
  refine List.ext_getElem (put_len ..) fun i h1 h2 => ?_
  simp only [put, List.getElem_mapIdx]
  rw [if_neg (by simp only [List.length_nil]; omega)]
theorem put_all {l p : List Nat} (h : l.length = p.length) : put l 0 p = p := by
  refine List.ext_getElem (by rw [put_len, h]) fun i h1 h2 => ?_
  simp only [put, List.getElem_mapIdx]
  rw [if_pos (by omega), List.getD_eq_getElem?_getD]
  simp [h2]
theorem put_snoc (l : List Nat) (lo : Int) (p : List Nat) (b : Nat) : put l lo (p ++ [b]) = if 0 ≤ lo + p.length ∧ lo + p.length < l.length then (put l lo p).set (lo + p.length).toNat b else put l lo p := by
  have key : ∀ i (h1 : i < l.length), (put l lo (p ++ [b]))[i]? = if (i : Int) = lo + p.length then some b else (put l lo p)[i]? := by
    intro i h1
    rw [List.getElem?_eq_getElem (by rw [put_len]; exact h1), List.getElem?_eq_getElem (by rw [put_len]; exact h1)]
    simp only [put, List.getElem_mapIdx, List.length_append, List.length_singleton]
    by_cases e : (i : Int) = lo + p.length
    · rw [if_pos e, if_pos (by omega)]
      have : ((i : Int) - lo).toNat = p.length := by omega
      rw [this]; simp
    · rw [if_neg e]
      by_cases q : lo ≤ i ∧ (i : Int) < lo + p.length
      · rw [if_pos q, if_pos (by omega)]
        have : ((i : Int) - lo).toNat < p.length := by omega
        simp [List.getElem?_append_left this]
      · rw [if_neg q, if_neg (by omega)]
  split
  · rename_i h
    refine List.ext_getElem? fun i => ?_
    by_cases h1 : i < l.length
    · rw [key i h1]
      by_cases e : (i : Int) = lo + p.length
      · rw [if_pos e, show (lo + (p.length : Int)).toNat = i by omega, List.getElem?_set_self (by rw [put_len]; exact h1)]
      · rw [if_neg e, List.getElem?_set_ne (by omega)]
    · rw [List.getElem?_eq_none (by rw [put_len]; omega), List.getElem?_eq_none (by rw [List.length_set, put_len]; omega)]
  · rename_i h
    refine List.ext_getElem? fun i => ?_
    by_cases h1 : i < l.length
    · rw [key i h1, if_neg (by omega)]
    · rw [List.getElem?_eq_none (by rw [put_len]; omega), List.getElem?_eq_none (by rw [put_len]; omega)]
theorem put_enc (q : Nat → Bool) {l p : List Nat} {lo : Int} {f n s : Nat} (hf : (f : Int) = max lo 0) (hn : (f : Int) + n = min (lo + p.length) l.length) (hs : (s : Int) = f - lo) :
    enc q (put l lo p) = (enc q l &&& ((2 ^ l.length - 1) ^^^ ((2 ^ n - 1) <<< f))) ||| (((enc q p >>> s) &&& (2 ^ n - 1)) <<< f) := by
  refine Nat.eq_of_testBit_eq fun i => ?_
  simp only [Nat.testBit_or, Nat.testBit_and, Nat.testBit_xor, Nat.testBit_shiftLeft, Nat.testBit_shiftRight, Nat.testBit_two_pow_sub_one, enc_bit]
  by_cases h1 : i < l.length
  · rw [List.getElem?_eq_getElem (by rw [put_len]; exact h1), List.getElem?_eq_getElem h1]
    simp only [put, List.getElem_mapIdx, Option.map_some, Option.getD_some, h1, decide_true]
    by_cases hin : lo ≤ i ∧ (i : Int) < lo + p.length
    · rw [if_pos hin]
      have h2 : i ≥ f := by omega
      have h3 : i - f < n := by omega
      have h4 : ((i : Int) - lo).toNat = s + (i - f) := by omega
      have h5 : s + (i - f) < p.length := by omega
      rw [h4, List.getD_eq_getElem?_getD, List.getElem?_eq_getElem h5]
      simp [h2, h3]
    · rw [if_neg hin]
      by_cases h2 : i ≥ f
      · have h3 : ¬ i - f < n := by omega
        simp [h2, h3]
      · simp [h2]
  · rw [List.getElem?_eq_none (by rw [put_len]; omega), List.getElem?_eq_none (by omega)]
    by_cases h2 : i ≥ f
    · have h3 : ¬ i - f < n := by omega
      simp [h2, h3]
    · simp [h2]
end
section
set_option maxRecDepth 20000
structure FnOkD (st : Stmt) (names : List (Str × NameKind)) (np : Nat) : Prop where
  nms : (fdScope st).names = names
  kind : (fdScope st).kind = .function
  co : (fdScope st).isCoroutine = false
  gen : (fdScope st).isGenerator = false
  cell : ∀ x ∈ names, x.2 ≠ .cell
  nd : (names.map (·.1)).Nodup
  dbg : ∀ p ∈ names, (p.1 == ("__debug__" : Str)) = false
  loc : ∀ x ∈ names.take np, x.2 = .local
  le : np ≤ names.length
theorem ok_Context_init : FnOkD (ms 82 0) nm_Context_init 4 where
  nms := by rfl
  kind := by rfl
  co := by rfl
  gen := by rfl
  cell := by decide
  nd := by decide
  dbg := by decide
  loc := by decide
  le := by decide
section
variable {c : Cx} {A : Around} {env : Env} {σ σ' : Led} {pos : Pos} {a : Addr} {l : List AV} {K : Frag}
theorem callC_fnD {f df : Addr} {st : Stmt} {names : List (Str × NameKind)} {np k : Nat} {vs0' vs : List AV} {Q : AV → Led → Prop} (G : Gd c) (F : FnAtD c f st df) (O : FnOkD st names np) (hl : vs.length = np) (room : A.depth < recursionLimit)
    (bnd : ∀ vs0, vs0.map er = vs0' → ∃ vs1, vs1.map er = vs ∧ ∀ (name qual : Str) (doc pm : Value) (an : Option Addr) (cdv ct : Value) (s : Shared), (∀ b o, c.B.get? b = some o → s.heap.get? b = some o) → BindsTo s (fnOf name qual (fdParams st) (fdBody st) (fdScope st) (.ref df) .none doc pm an cdv ct) ⟨vs0, []⟩ (((names.take np).map (·.1)).zip vs1))
    (h : ∀ (L : Addr) (env : Env), FrOk env L names → X c (A.deeper env) (execs (fdBody st) env) ((L, .ns names (initV vs k)) :: σ) (fun σ' => ∃ σ'', Sb σ'' σ' ∧ Q .none σ'') (fun _ => False) (fun _ => False) (fun v σ' => ∃ σ'', Sb σ'' σ' ∧ Q v σ'')) : CallC c A (.ref f) vs0' σ Q := by
  simp only [initV_eq] at h
  intro f0 vs0a e1 e2a s hs
  obtain ⟨vs0, e2, hbt⟩ := bnd vs0a e2a
  cases er_ref e1
  obtain ⟨name, qual, doc, pm, an, cdv, ct, oc, od, osl, ho, hcd⟩ := F
  have hl0 : vs0.length = np := by rw [← hl, ← e2, List.length_map]
  have hz : (names.take np).length = np := by rw [List.length_take]; exact Nat.min_eq_left O.le
  refine (codeAny_call_def (fd := fnOf name qual (fdParams st) (fdBody st) (fdScope st) (.ref df) .none doc pm an cdv ct) (binds := ((names.take np).map (·.1)).zip vs0) room (hs.hp.keep _ _ ho) rfl (G.nolimit.keeps hs.hp.keep) (hcd.keeps hs.hp.keep) rfl
    (hbt _ _ _ _ _ _ _ _ hs.hp.keep) (by rw [show (fnOf name qual (fdParams st) (fdBody st) (fdScope st) (.ref df) .none doc pm an cdv ct).scope.names = names from O.nms]; exact O.cell) ?_ (fun h₀ hns hk => ?_) O.co O.gen O.kind)
  · intro x hx
    show (fdScope st).names.lookup x.1 = some .local
    rw [O.nms]
    have hm := (List.of_mem_zip hx).1
    obtain ⟨p, hp, e⟩ := List.mem_map.mp hm
    have := O.loc p hp
    refine lookup_of_mem O.nd ?_
    rw [← e, ← this]
    exact List.mem_of_mem_take hp
  · obtain ⟨o, es, ep, hoL, hd, hsk, hf⟩ := hns
    have hlt : s.heap.objs.size < h₀.objs.size := Heap.lt_size hoL
    have hH : Hp c ((s.heap.objs.size, .ns names (vs.map some ++ List.replicate k none)) :: σ) h₀ := by
      refine ⟨fun b o e => hk b o (hs.hp.keep b o e), Nat.le_trans hs.hp.sz (Nat.le_of_lt hlt), fun p hp => ?_, ?_⟩
      · rcases List.mem_cons.mp hp with rfl | hp
        · refine ⟨⟨o, hoL, es, ep, hd, hsk, fun i x kd v hi hv => ?_⟩, hs.hp.sz⟩
          rw [hf]
          have hiv : i < vs.length := by
            refine Nat.lt_of_not_le fun q => ?_
            rw [List.getElem?_append_right (by simpa using q), List.getElem?_replicate] at hv
            split at hv <;> simp at hv
          rw [List.getElem?_append_left (by simpa using hiv), List.getElem?_map, Option.map_eq_some_iff] at hv
          obtain ⟨v', hv', e⟩ := hv
          cases e
          rw [← e2, List.getElem?_map, Option.map_eq_some_iff] at hv'
          obtain ⟨v0, hv0, rfl⟩ := hv'
          have hx : ((names.take np).map (·.1))[i]? = some x := by
            rw [List.getElem?_map, List.getElem?_take_of_lt (by omega), hi]; rfl
          have nd' : ((names.take np).map (·.1)).Nodup := by
            have := O.nd.sublist ((List.take_sublist np names).map (·.1))
            exact this
          show Option.map er ((((names.take np).map (·.1)).zip vs0).reverse.lookup x) = _
          rw [zip_lookup nd' hx hv0]
          rfl
        · obtain ⟨⟨o', e, q⟩, l⟩ := hs.hp.has p hp
          exact ⟨⟨o', hk _ _ e, q⟩, l⟩
      · rw [List.map_cons, List.nodup_cons]
        refine ⟨fun q => ?_, hs.hp.nd⟩
        obtain ⟨p, hp, e⟩ := List.mem_map.mp q
        obtain ⟨⟨o', e', _⟩, _⟩ := hs.hp.has p hp
        have := Heap.lt_size e'
        rw [e] at this
        exact Nat.lt_irrefl _ this
    refine wpAny_mono (h s.heap.objs.size _ ⟨O.kind, O.nms, O.nd, O.dbg, rfl, rfl, rfl⟩ _ ⟨hH, hs.gens, hs.os⟩) (fun f s' hq => ?_) fun _ _ x => x.elim
    obtain ⟨σ', h1, k1⟩ := hq
    have fin : ∀ v : Value, (∃ σ'', Sb σ'' σ' ∧ Q (er v) σ'') → ∃ σ', St c σ' s' ∧ Q (er v) σ' := by
      rintro v ⟨σ'', hsub, hq⟩
      exact ⟨σ'', h1.sb hsub, hq⟩
    cases f with
    | next => exact fin .none k1
    | brk => exact k1.elim
    | cont => exact k1.elim
    | ret v => exact fin v k1
theorem bnd_Context_init {u v w : AV} (G : Ps c K) : ∀ vs0, vs0.map er = [u, v, w] → ∃ vs1, vs1.map er = [u, v, w, .int 0] ∧ ∀ (name qual : Str) (doc pm : Value) (an : Option Addr) (cdv ct : Value) (s : Shared), (∀ b o, c.B.get? b = some o → s.heap.get? b = some o) → BindsTo s (fnOf name qual (fdParams (ms 82 0)) (fdBody (ms 82 0)) (fdScope (ms 82 0)) (.ref 705) .none doc pm an cdv ct) ⟨vs0, []⟩ (((nm_Context_init.take 4).map (·.1)).zip vs1) := by
  intro vs0 e
  obtain ⟨t, ht⟩ := G.d_Context
  obtain ⟨x, t1, rfl, e1, k1⟩ := er_cons e
  obtain ⟨y, t2, rfl, e2, k2⟩ := er_cons k1
  obtain ⟨z, t3, rfl, e3, k3⟩ := er_cons k2
  obtain rfl := er_nil k3
  refine ⟨[x, y, z, .int 0 t], by simp only [List.map_cons, List.map_nil, e1, e2, e3]; rfl, fun name qual doc pm an cdv ct s hk => ?_⟩
  exact BindsTo.of_defaults (T := 705) rfl (hk _ _ ht) rfl rfl rfl
theorem ns_pad {nm : List (Str × NameKind)} {vs : List (Option AV)} {k : Nat} {o : Obj} (h : (MO.ns nm vs).Ok c o) : (MO.ns nm (vs ++ noneV k)).Ok c o := by
  obtain ⟨es, ep, h1, h2, h3⟩ := h
  refine ⟨es, ep, h1, h2, fun i x k' v hn hv => h3 i x k' v hn ?_⟩
  by_cases q : i < vs.length
  · rwa [List.getElem?_append_left q] at hv
  · rw [List.getElem?_append_right (by omega), noneV_eq, List.getElem?_replicate] at hv
    split at hv <;> simp at hv
theorem call_cl {f : Addr} {st : Stmt} {names : List (Str × NameKind)} {np k : Nat} {cf : Nat → List (Str × Addr)} {vs : List AV} {Q : AV → Led → Prop} (cmA : Str → Option AV) (G : Gd c) (F : FnAt c f st) (O : FnOkC st names np cf) (hl : vs.length = np) (room : A.depth < recursionLimit)
    (hcm : ∀ n, ∀ p ∈ cf n, (∃ (i : Nat) (v : AV), (names.take np)[i]? = some (p.1, NameKind.cell) ∧ vs[i]? = some v ∧ cmA p.1 = some v) ∨ (p.1 ∉ (names.take np).map (·.1) ∧ cmA p.1 = none))
    (h : ∀ (L : Addr) (env : Env), FrOk env L names → env.cells = cf (L + 1) → X c (A.deeper env) (execs (fdBody st) env) ((cf (L + 1)).map (fun p => (p.2, MO.cel (cmA p.1))) ++ (L, .ns names (locV names vs ++ noneV k)) :: σ) (fun σ' => ∃ σ'', Sb σ'' σ' ∧ Q .none σ'') (fun _ => False) (fun _ => False) (fun v σ' => ∃ σ'', Sb σ'' σ' ∧ Q v σ'')) : Call c A (.ref f) vs σ Q :=
  (callC_cl cmA G F O hl room hcm fun L env hF hc => W.weak (h L env hF hc) fun hp H => H.weaken (.skip .here) fun o h => ns_pad h).call
end
end
section
set_option maxRecDepth 20000
structure Rm (A : Around) (n : Nat) : Prop where
  hd : A.handled = none
  dp : A.depth + n < 900
  un : A.units + 20 * n < 9000
theorem Rm.room {A : Around} {n : Nat} (R : Rm A n) : A.depth < recursionLimit := by have := R.dp; unfold recursionLimit; omega
theorem Rm.less {A : Around} {n m : Nat} (R : Rm A n) (h : m ≤ n) : Rm A m := ⟨R.hd, by have := R.dp; omega, by have := R.un; omega⟩
theorem Rm.deeper {A : Around} {env : Env} {n : Nat} (R : Rm A (n + 1)) : Rm (A.deeper env) n := by
  obtain ⟨h, d, u⟩ := R
  refine ⟨h, ?_, ?_⟩
  · show A.depth + 1 + n < 900; omega
  · have : (A.deeper env).units ≤ A.units + 8 := by show A.units + _ ≤ _; simp [Code.cUnits]
    omega
section
variable {c : Cx} {A : Around} {env : Env} {L : Addr} {names : List (Str × NameKind)} {σ σ' : Led} {pos : Pos} {a b d C f r : Addr} {l l' : List AV} {K : Frag}
theorem e_globR {Q : AV → Led → Prop} {x : Str} (F : FrOk env L names) (k : KdAt names x .globalImplicit) (g : Gl c x (.ref a)) (h : Q (.ref a) σ) : E c A env (.Name x pos) σ Q := e_glob F k g h
theorem e_globB {Q : AV → Led → Prop} {x : Str} {id : String} (F : FrOk env L names) (k : KdAt names x .globalImplicit) (g : Gl c x (.builtin id)) (h : Q (.oth (.builtin id)) σ) : E c A env (.Name x pos) σ Q := e_glob F k g h
theorem e_globT {Q : AV → Led → Prop} {x : Str} {id : String} (F : FrOk env L names) (k : KdAt names x .globalImplicit) (g : Gl c x (.type id)) (h : Q (.oth (.type id)) σ) : E c A env (.Name x pos) σ Q := e_glob F k g h
theorem o_shlN {x k : Nat} {Q : AV → Led → Prop} (hk : k ≤ 1000) (hx : x < 2 ^ 64) (h : Q (.int ((x <<< k : Nat) : Int)) σ) : Op2 c A (binaryOp .LShift) er (.int (x : Int)) (.int (k : Int)) σ Q :=
  o_shl (by omega) (by omega) (by rw [Int.natAbs_natCast]; exact hx) (by rw [Int.toNat_natCast, shl_nat]; exact h)
theorem o_shrN {x k : Nat} {Q : AV → Led → Prop} (h : Q (.int ((x >>> k : Nat) : Int)) σ) : Op2 c A (binaryOp .RShift) er (.int (x : Int)) (.int (k : Int)) σ Q :=
  o_shr (by omega) (by rw [Int.toNat_natCast, shr_nat]; exact h)
theorem o_bandN {x y : Nat} {Q : AV → Led → Prop} (h : Q (.int ((x &&& y : Nat) : Int)) σ) : Op2 c A (binaryOp .BitAnd) er (.int (x : Int)) (.int (y : Int)) σ Q := o_band (by rw [band_nat]; exact h)
theorem o_borN {x y : Nat} {Q : AV → Led → Prop} (h : Q (.int ((x ||| y : Nat) : Int)) σ) : Op2 c A (binaryOp .BitOr) er (.int (x : Int)) (.int (y : Int)) σ Q := o_bor (by rw [bor_nat]; exact h)
theorem o_bxorN {x y : Nat} {Q : AV → Led → Prop} (h : Q (.int ((x ^^^ y : Nat) : Int)) σ) : Op2 c A (binaryOp .BitXor) er (.int (x : Int)) (.int (y : Int)) σ Q := o_bxor (by rw [bxor_nat]; exact h)
theorem Call.sb {f : AV} {vs : List AV} {Q : AV → Led → Prop} (hs : Sb σ' σ) (h : Call c A f vs σ' Q) : Call c A f vs σ Q := fun f0 vs0 e1 e2 => W.weak (h f0 vs0 e1 e2) fun _ H => H.sb hs
theorem e_neg {e : Expr} {Q : AV → Led → Prop} (h : E c A env e σ fun v σ1 => Op1 c A (unaryOp .USub) er v σ1 Q) : E c A env (.UnaryOp .USub e pos) σ Q := fun s hs =>
  UnaryOp_ (wpAny_mono (h s hs) (fun v s1 ⟨σ1, h1, k1⟩ => k1 v rfl s1 h1) fun _ _ x => x.elim)
theorem u_neg {i : Int} {Q : AV → Led → Prop} (h : Q (.int (-i)) σ) : Op1 c A (unaryOp .USub) er (.int i) σ Q := fun v hv s hs => by
  obtain ⟨t, rfl⟩ := er_int hv
  exact PyProof.Rows.neg_int ⟨σ, hs.tok, h⟩
theorem call_app {f x : AV} {vs : List AV} {Q : AV → Led → Prop} (h : Call c A f (x :: vs) σ Q) : Call c A f ([x] ++ vs) σ Q := h
theorem call_out {f : AV} {vs : List AV} {Q Q' : AV → Led → Prop} (h : Call c A f vs σ Q) (k : ∀ x σ', Q x σ' → Q' x σ') : Call c A f vs σ Q' := h.mono k
theorem x_cont {N B C : Led → Prop} {R : AV → Led → Prop} (h : C σ) : X c A (exec (.Continue pos) env) σ N B C R := fun s hs => by
  have : exec (.Continue pos) env = (do standAt pos; pure .cont) := rfl
  rw [this]
  exact wpAny_bind (wpAny_standAt (wpAny_pure ⟨σ, hs, h⟩))
noncomputable def tv (l : List Nat) : List AV := [.int (l.length : Int), .int (enc lo1 l : Int), .int (enc hi1 l : Int)]
theorem tv_il (l : List Nat) : tv l = il (made l) := rfl
theorem enc_x (p : Nat → Bool) (hp : p 3 = true) : ∀ w : Nat, enc p (List.replicate w 3) = 2 ^ w - 1
  | 0 => rfl
  | w + 1 => by
    rw [List.replicate_succ]
    simp only [enc, enc_x p hp w, hp, Bool.toNat_true, Nat.pow_succ]
    have : 0 < 2 ^ w := Nat.pow_pos (by decide)
    omega
end
end
section
set_option maxRecDepth 20000
noncomputable def sigF (k w : Nat) (pth : Str) (mem : Bool) : List (Str × AV) := [(Str.ofString "key", .int (k : Int)), (Str.ofString "path", .str pth), (Str.ofString "kind", .str (Str.ofString "reg")), (Str.ofString "width", .int (w : Int)), (Str.ofString "signed", .bool false), (Str.ofString "msb", .int ((w : Int) - 1)), (Str.ofString "lsb", .int 0), (Str.ofString "first", (if mem then AV.int 1 else AV.none)), (Str.ofString "last", (if mem then AV.int 4 else AV.none)), (Str.ofString "init", .none), (Str.ofString "at", .int (-1)), (Str.ofString "scalar", .bool false)]
theorem fg_sig_key {k w : Nat} {pth : Str} {mem : Bool} : fget (sigF k w pth mem) (Str.ofString "key") = some (.int (k : Int)) := by kernel_rfl
theorem fg_sig_path {k w : Nat} {pth : Str} {mem : Bool} : fget (sigF k w pth mem) (Str.ofString "path") = some (.str pth) := by kernel_rfl
theorem fg_sig_kind {k w : Nat} {pth : Str} {mem : Bool} : fget (sigF k w pth mem) (Str.ofString "kind") = some (.str (Str.ofString "reg")) := by kernel_rfl
theorem fg_sig_width {k w : Nat} {pth : Str} {mem : Bool} : fget (sigF k w pth mem) (Str.ofString "width") = some (.int (w : Int)) := by kernel_rfl
theorem fg_sig_signed {k w : Nat} {pth : Str} {mem : Bool} : fget (sigF k w pth mem) (Str.ofString "signed") = some (.bool false) := by kernel_rfl
theorem fg_sig_msb {k w : Nat} {pth : Str} {mem : Bool} : fget (sigF k w pth mem) (Str.ofString "msb") = some (.int ((w : Int) - 1)) := by kernel_rfl
theorem fg_sig_lsb {k w : Nat} {pth : Str} {mem : Bool} : fget (sigF k w pth mem) (Str.ofString "lsb") = some (.int 0) := by kernel_rfl
theorem fg_sig_first {k w : Nat} {pth : Str} {mem : Bool} : fget (sigF k w pth mem) (Str.ofString "first") = some ((if mem then AV.int 1 else AV.none)) := by kernel_rfl
theorem fg_sig_last {k w : Nat} {pth : Str} {mem : Bool} : fget (sigF k w pth mem) (Str.ofString "last") = some ((if mem then AV.int 4 else AV.none)) := by kernel_rfl
theorem fg_sig_init {k w : Nat} {pth : Str} {mem : Bool} : fget (sigF k w pth mem) (Str.ofString "init") = some (.none) := by kernel_rfl
theorem fg_sig_at {k w : Nat} {pth : Str} {mem : Bool} : fget (sigF k w pth mem) (Str.ofString "at") = some (.int (-1)) := by kernel_rfl
theorem fg_sig_scalar {k w : Nat} {pth : Str} {mem : Bool} : fget (sigF k w pth mem) (Str.ofString "scalar") = some (.bool false) := by kernel_rfl
theorem fn_sig_is_net {k w : Nat} {pth : Str} {mem : Bool} : fget (sigF k w pth mem) (Str.ofString "is_net") = none := by kernel_rfl
theorem fn_sig_words {k w : Nat} {pth : Str} {mem : Bool} : fget (sigF k w pth mem) (Str.ofString "words") = none := by kernel_rfl
theorem fn_sig_place {k w : Nat} {pth : Str} {mem : Bool} : fget (sigF k w pth mem) (Str.ofString "place") = none := by kernel_rfl
noncomputable def stF (sl va ma : Addr) : List (Str × AV) := [(Str.ofString "signals", .ref sl), (Str.ofString "values", .ref va), (Str.ofString "memories", .ref ma), (Str.ofString "random_seed", .int 1)]
theorem fg_st_signals {sl va ma : Addr} : fget (stF sl va ma) (Str.ofString "signals") = some (.ref sl) := by kernel_rfl
theorem fg_st_values {sl va ma : Addr} : fget (stF sl va ma) (Str.ofString "values") = some (.ref va) := by kernel_rfl
theorem fg_st_memories {sl va ma : Addr} : fget (stF sl va ma) (Str.ofString "memories") = some (.ref ma) := by kernel_rfl
theorem fg_st_random_seed {sl va ma : Addr} : fget (stF sl va ma) (Str.ofString "random_seed") = some (.int 1) := by kernel_rfl
theorem fn_st_get {sl va ma : Addr} : fget (stF sl va ma) (Str.ofString "get") = none := by kernel_rfl
theorem fn_st_word {sl va ma : Addr} : fget (stF sl va ma) (Str.ofString "word") = none := by kernel_rfl
theorem fn_st_set_bits {sl va ma : Addr} : fget (stF sl va ma) (Str.ofString "set_bits") = none := by kernel_rfl
noncomputable def ctF (so fr : Addr) : List (Str × AV) := [(Str.ofString "store", .ref so), (Str.ofString "frame", .ref fr), (Str.ofString "now", .int 0)]
theorem fg_ct_store {so fr : Addr} : fget (ctF so fr) (Str.ofString "store") = some (.ref so) := by kernel_rfl
theorem fg_ct_frame {so fr : Addr} : fget (ctF so fr) (Str.ofString "frame") = some (.ref fr) := by kernel_rfl
theorem fg_ct_now {so fr : Addr} : fget (ctF so fr) (Str.ofString "now") = some (.int 0) := by kernel_rfl
noncomputable def dsF (sl b1 b2 b3 b4 b5 b6 b7 b8 bp : Addr) : List (Str × AV) := [(Str.ofString "signals", .ref sl), (Str.ofString "assigns", .ref b1), (Str.ofString "gates", .ref b2), (Str.ofString "udps", .ref b3), (Str.ofString "processes", .ref b4), (Str.ofString "routines", .ref b5), (Str.ofString "scopes", .ref b6), (Str.ofString "tops", .ref b7), (Str.ofString "ports", .ref b8), (Str.ofString "maker", .none), (Str.ofString "by_path", .ref bp)]
theorem fg_ds_signals {sl b1 b2 b3 b4 b5 b6 b7 b8 bp : Addr} : fget (dsF sl b1 b2 b3 b4 b5 b6 b7 b8 bp) (Str.ofString "signals") = some (.ref sl) := by kernel_rfl
theorem fg_ds_by_path {sl b1 b2 b3 b4 b5 b6 b7 b8 bp : Addr} : fget (dsF sl b1 b2 b3 b4 b5 b6 b7 b8 bp) (Str.ofString "by_path") = some (.ref bp) := by kernel_rfl
theorem fn_ds_add_signal {sl b1 b2 b3 b4 b5 b6 b7 b8 bp : Addr} : fget (dsF sl b1 b2 b3 b4 b5 b6 b7 b8 bp) (Str.ofString "add_signal") = none := by kernel_rfl
noncomputable def Sig (σ : Led) (s : Addr) (k w : Nat) (mem : Bool) : Prop := ∃ sd pth, (s, MO.ins 588 sd) ∈ σ ∧ (sd, MO.fld (sigF k w pth mem)) ∈ σ
structure Wd (σ : Led) (x sl va ma : Addr) (ws : List Nat) : Prop where
  sx : ∃ st, (x, MO.ins 693 st) ∈ σ ∧ (st, MO.fld (stF sl va ma)) ∈ σ
  sgs : ∃ sigs : List AV, (sl, MO.lst sigs) ∈ σ ∧ sigs.length = 5 ∧ ∀ k, k < 5 → ∃ s, sigs[k]? = some (.ref s) ∧ Sig σ s k (ws.getD k 0) (k == 4)
  len : ws.length = 7
  lo : ∀ k, k < 7 → 1 ≤ ws.getD k 0 ∧ ws.getD k 0 ≤ 6
theorem Sig.mono {σ σ' : Led} {s : Addr} {k w : Nat} {mem : Bool} (h : Sig σ s k w mem) (hs : ∀ p ∈ σ, p ∈ σ') : Sig σ' s k w mem := let ⟨sd, pth, a, b⟩ := h; ⟨sd, pth, hs _ a, hs _ b⟩
theorem Wd.mono {σ σ' : Led} {x sl va ma : Addr} {ws : List Nat} (h : Wd σ x sl va ma ws) (hs : ∀ p ∈ σ, p ∈ σ') : Wd σ' x sl va ma ws where
  sx := let ⟨st, a, b⟩ := h.sx; ⟨st, hs _ a, hs _ b⟩
  sgs := by
    obtain ⟨sigs, a, b, c⟩ := h.sgs
    refine ⟨sigs, hs _ a, b, fun k hk => ?_⟩
    obtain ⟨s, e, q⟩ := c k hk
    exact ⟨s, e, q.mono hs⟩
  len := h.len
  lo := h.lo
noncomputable def VOk (σ : Led) (o : Option AV) (l : List Nat) : Prop := (∃ p, o = some (.ref p) ∧ (p, MO.tup (tv l)) ∈ σ) ∨ (o = none ∧ l = List.replicate l.length 3)
theorem VOk.mono {σ σ' : Led} {o : Option AV} {l : List Nat} (h : VOk σ o l) (hs : ∀ p ∈ σ, p ∈ σ') : VOk σ' o l := by
  rcases h with ⟨p, a, b⟩ | h
  · exact .inl ⟨p, a, hs _ b⟩
  · exact .inr h
theorem in_app {σ : Led} (nw : Led) : ∀ p ∈ σ, p ∈ nw ++ σ := fun p h => List.mem_append_right _ h
theorem in_cons {σ : Led} (e : Addr × MO) : ∀ p ∈ σ, p ∈ e :: σ := fun p h => List.mem_cons_of_mem _ h
section
variable {c : Cx} {K : Frag} {A : Around} {σ : Led} {x d : Addr}
theorem ga_sig_key {k w : Nat} {pth : Str} {mem : Bool} {Q : AV → Led → Prop} (G : Ps c K) (mi : (x, MO.ins 588 d) ∈ σ) (mf : (d, MO.fld (sigF k w pth mem)) ∈ σ) (h : Q (.int (k : Int)) σ) : Op1 c A (fun o => getAttr o (Str.ofString "key") true) er (.ref x) σ Q := g_attr G.X G.c_Signal.pl mi mf G.a_Signal_key fg_sig_key (by first | rfl | (cases mem <;> rfl)) h
theorem ga_sig_path {k w : Nat} {pth : Str} {mem : Bool} {Q : AV → Led → Prop} (G : Ps c K) (mi : (x, MO.ins 588 d) ∈ σ) (mf : (d, MO.fld (sigF k w pth mem)) ∈ σ) (h : Q (.str pth) σ) : Op1 c A (fun o => getAttr o (Str.ofString "path") true) er (.ref x) σ Q := g_attr G.X G.c_Signal.pl mi mf G.a_Signal_path fg_sig_path (by first | rfl | (cases mem <;> rfl)) h
theorem ga_sig_kind {k w : Nat} {pth : Str} {mem : Bool} {Q : AV → Led → Prop} (G : Ps c K) (mi : (x, MO.ins 588 d) ∈ σ) (mf : (d, MO.fld (sigF k w pth mem)) ∈ σ) (h : Q (.str (Str.ofString "reg")) σ) : Op1 c A (fun o => getAttr o (Str.ofString "kind") true) er (.ref x) σ Q := g_attr G.X G.c_Signal.pl mi mf G.a_Signal_kind fg_sig_kind (by first | rfl | (cases mem <;> rfl)) h
theorem ga_sig_width {k w : Nat} {pth : Str} {mem : Bool} {Q : AV → Led → Prop} (G : Ps c K) (mi : (x, MO.ins 588 d) ∈ σ) (mf : (d, MO.fld (sigF k w pth mem)) ∈ σ) (h : Q (.int (w : Int)) σ) : Op1 c A (fun o => getAttr o (Str.ofString "width") true) er (.ref x) σ Q := g_attr G.X G.c_Signal.pl mi mf G.a_Signal_width fg_sig_width (by first | rfl | (cases mem <;> rfl)) h
theorem ga_sig_signed {k w : Nat} {pth : Str} {mem : Bool} {Q : AV → Led → Prop} (G : Ps c K) (mi : (x, MO.ins 588 d) ∈ σ) (mf : (d, MO.fld (sigF k w pth mem)) ∈ σ) (h : Q (.bool false) σ) : Op1 c A (fun o => getAttr o (Str.ofString "signed") true) er (.ref x) σ Q := g_attr G.X G.c_Signal.pl mi mf G.a_Signal_signed fg_sig_signed (by first | rfl | (cases mem <;> rfl)) h
theorem ga_sig_msb {k w : Nat} {pth : Str} {mem : Bool} {Q : AV → Led → Prop} (G : Ps c K) (mi : (x, MO.ins 588 d) ∈ σ) (mf : (d, MO.fld (sigF k w pth mem)) ∈ σ) (h : Q (.int ((w : Int) - 1)) σ) : Op1 c A (fun o => getAttr o (Str.ofString "msb") true) er (.ref x) σ Q := g_attr G.X G.c_Signal.pl mi mf G.a_Signal_msb fg_sig_msb (by first | rfl | (cases mem <;> rfl)) h
theorem ga_sig_lsb {k w : Nat} {pth : Str} {mem : Bool} {Q : AV → Led → Prop} (G : Ps c K) (mi : (x, MO.ins 588 d) ∈ σ) (mf : (d, MO.fld (sigF k w pth mem)) ∈ σ) (h : Q (.int 0) σ) : Op1 c A (fun o => getAttr o (Str.ofString "lsb") true) er (.ref x) σ Q := g_attr G.X G.c_Signal.pl mi mf G.a_Signal_lsb fg_sig_lsb (by first | rfl | (cases mem <;> rfl)) h
theorem ga_sig_first {k w : Nat} {pth : Str} {mem : Bool} {Q : AV → Led → Prop} (G : Ps c K) (mi : (x, MO.ins 588 d) ∈ σ) (mf : (d, MO.fld (sigF k w pth mem)) ∈ σ) (h : Q ((if mem then AV.int 1 else AV.none)) σ) : Op1 c A (fun o => getAttr o (Str.ofString "first") true) er (.ref x) σ Q := g_attr G.X G.c_Signal.pl mi mf G.a_Signal_first fg_sig_first (by first | rfl | (cases mem <;> rfl)) h
theorem ga_sig_last {k w : Nat} {pth : Str} {mem : Bool} {Q : AV → Led → Prop} (G : Ps c K) (mi : (x, MO.ins 588 d) ∈ σ) (mf : (d, MO.fld (sigF k w pth mem)) ∈ σ) (h : Q ((if mem then AV.int 4 else AV.none)) σ) : Op1 c A (fun o => getAttr o (Str.ofString "last") true) er (.ref x) σ Q := g_attr G.X G.c_Signal.pl mi mf G.a_Signal_last fg_sig_last (by first | rfl | (cases mem <;> rfl)) h
theorem ga_sig_init {k w : Nat} {pth : Str} {mem : Bool} {Q : AV → Led → Prop} (G : Ps c K) (mi : (x, MO.ins 588 d) ∈ σ) (mf : (d, MO.fld (sigF k w pth mem)) ∈ σ) (h : Q (.none) σ) : Op1 c A (fun o => getAttr o (Str.ofString "init") true) er (.ref x) σ Q := g_attr G.X G.c_Signal.pl mi mf G.a_Signal_init fg_sig_init (by first | rfl | (cases mem <;> rfl)) h
theorem ga_sig_at {k w : Nat} {pth : Str} {mem : Bool} {Q : AV → Led → Prop} (G : Ps c K) (mi : (x, MO.ins 588 d) ∈ σ) (mf : (d, MO.fld (sigF k w pth mem)) ∈ σ) (h : Q (.int (-1)) σ) : Op1 c A (fun o => getAttr o (Str.ofString "at") true) er (.ref x) σ Q := g_attr G.X G.c_Signal.pl mi mf G.a_Signal_at fg_sig_at (by first | rfl | (cases mem <;> rfl)) h
theorem ga_sig_scalar {k w : Nat} {pth : Str} {mem : Bool} {Q : AV → Led → Prop} (G : Ps c K) (mi : (x, MO.ins 588 d) ∈ σ) (mf : (d, MO.fld (sigF k w pth mem)) ∈ σ) (h : Q (.bool false) σ) : Op1 c A (fun o => getAttr o (Str.ofString "scalar") true) er (.ref x) σ Q := g_attr G.X G.c_Signal.pl mi mf G.a_Signal_scalar fg_sig_scalar (by first | rfl | (cases mem <;> rfl)) h
theorem gm_sig_is_net {k w : Nat} {pth : Str} {mem : Bool} {Q : AV → List AV → Led → Prop} (G : Ps c K) (mi : (x, MO.ins 588 d) ∈ σ) (mf : (d, MO.fld (sigF k w pth mem)) ∈ σ) (h : Q (.ref 557) [.ref x] σ) : Gm c A (.ref x) (Str.ofString "is_net") σ Q := g_meth G.X G.c_Signal.pl mi mf G.t_Signal_is_net.fd G.t_Signal_is_net.ty fn_sig_is_net h
theorem gm_sig_words {k w : Nat} {pth : Str} {mem : Bool} {Q : AV → List AV → Led → Prop} (G : Ps c K) (mi : (x, MO.ins 588 d) ∈ σ) (mf : (d, MO.fld (sigF k w pth mem)) ∈ σ) (h : Q (.ref 571) [.ref x] σ) : Gm c A (.ref x) (Str.ofString "words") σ Q := g_meth G.X G.c_Signal.pl mi mf G.t_Signal_words.fd G.t_Signal_words.ty fn_sig_words h
theorem gm_sig_place {k w : Nat} {pth : Str} {mem : Bool} {Q : AV → List AV → Led → Prop} (G : Ps c K) (mi : (x, MO.ins 588 d) ∈ σ) (mf : (d, MO.fld (sigF k w pth mem)) ∈ σ) (h : Q (.ref 585) [.ref x] σ) : Gm c A (.ref x) (Str.ofString "place") σ Q := g_meth G.X G.c_Signal.pl mi mf G.t_Signal_place.fd G.t_Signal_place.ty fn_sig_place h
theorem ga_st_signals {sl va ma : Addr} {Q : AV → Led → Prop} (G : Ps c K) (mi : (x, MO.ins 693 d) ∈ σ) (mf : (d, MO.fld (stF sl va ma)) ∈ σ) (h : Q (.ref sl) σ) : Op1 c A (fun o => getAttr o (Str.ofString "signals") true) er (.ref x) σ Q := g_attr G.X G.c_Store.pl mi mf G.a_Store_signals fg_st_signals (by first | rfl | (cases mem <;> rfl)) h
theorem ga_st_values {sl va ma : Addr} {Q : AV → Led → Prop} (G : Ps c K) (mi : (x, MO.ins 693 d) ∈ σ) (mf : (d, MO.fld (stF sl va ma)) ∈ σ) (h : Q (.ref va) σ) : Op1 c A (fun o => getAttr o (Str.ofString "values") true) er (.ref x) σ Q := g_attr G.X G.c_Store.pl mi mf G.a_Store_values fg_st_values (by first | rfl | (cases mem <;> rfl)) h
theorem ga_st_memories {sl va ma : Addr} {Q : AV → Led → Prop} (G : Ps c K) (mi : (x, MO.ins 693 d) ∈ σ) (mf : (d, MO.fld (stF sl va ma)) ∈ σ) (h : Q (.ref ma) σ) : Op1 c A (fun o => getAttr o (Str.ofString "memories") true) er (.ref x) σ Q := g_attr G.X G.c_Store.pl mi mf G.a_Store_memories fg_st_memories (by first | rfl | (cases mem <;> rfl)) h
theorem ga_st_random_seed {sl va ma : Addr} {Q : AV → Led → Prop} (G : Ps c K) (mi : (x, MO.ins 693 d) ∈ σ) (mf : (d, MO.fld (stF sl va ma)) ∈ σ) (h : Q (.int 1) σ) : Op1 c A (fun o => getAttr o (Str.ofString "random_seed") true) er (.ref x) σ Q := g_attr G.X G.c_Store.pl mi mf G.a_Store_random_seed fg_st_random_seed (by first | rfl | (cases mem <;> rfl)) h
theorem gm_st_get {sl va ma : Addr} {Q : AV → List AV → Led → Prop} (G : Ps c K) (mi : (x, MO.ins 693 d) ∈ σ) (mf : (d, MO.fld (stF sl va ma)) ∈ σ) (h : Q (.ref 676) [.ref x] σ) : Gm c A (.ref x) (Str.ofString "get") σ Q := g_meth G.X G.c_Store.pl mi mf G.t_Store_get.fd G.t_Store_get.ty fn_st_get h
theorem gm_st_word {sl va ma : Addr} {Q : AV → List AV → Led → Prop} (G : Ps c K) (mi : (x, MO.ins 693 d) ∈ σ) (mf : (d, MO.fld (stF sl va ma)) ∈ σ) (h : Q (.ref 683) [.ref x] σ) : Gm c A (.ref x) (Str.ofString "word") σ Q := g_meth G.X G.c_Store.pl mi mf G.t_Store_word.fd G.t_Store_word.ty fn_st_word h
theorem gm_st_set_bits {sl va ma : Addr} {Q : AV → List AV → Led → Prop} (G : Ps c K) (mi : (x, MO.ins 693 d) ∈ σ) (mf : (d, MO.fld (stF sl va ma)) ∈ σ) (h : Q (.ref 690) [.ref x] σ) : Gm c A (.ref x) (Str.ofString "set_bits") σ Q := g_meth G.X G.c_Store.pl mi mf G.t_Store_set_bits.fd G.t_Store_set_bits.ty fn_st_set_bits h
theorem ga_ct_store {so fr : Addr} {Q : AV → Led → Prop} (G : Ps c K) (mi : (x, MO.ins 736 d) ∈ σ) (mf : (d, MO.fld (ctF so fr)) ∈ σ) (h : Q (.ref so) σ) : Op1 c A (fun o => getAttr o (Str.ofString "store") true) er (.ref x) σ Q := g_attr G.X G.c_Context.pl mi mf G.a_Context_store fg_ct_store (by first | rfl | (cases mem <;> rfl)) h
theorem ga_ct_frame {so fr : Addr} {Q : AV → Led → Prop} (G : Ps c K) (mi : (x, MO.ins 736 d) ∈ σ) (mf : (d, MO.fld (ctF so fr)) ∈ σ) (h : Q (.ref fr) σ) : Op1 c A (fun o => getAttr o (Str.ofString "frame") true) er (.ref x) σ Q := g_attr G.X G.c_Context.pl mi mf G.a_Context_frame fg_ct_frame (by first | rfl | (cases mem <;> rfl)) h
theorem ga_ct_now {so fr : Addr} {Q : AV → Led → Prop} (G : Ps c K) (mi : (x, MO.ins 736 d) ∈ σ) (mf : (d, MO.fld (ctF so fr)) ∈ σ) (h : Q (.int 0) σ) : Op1 c A (fun o => getAttr o (Str.ofString "now") true) er (.ref x) σ Q := g_attr G.X G.c_Context.pl mi mf G.a_Context_now fg_ct_now (by first | rfl | (cases mem <;> rfl)) h
theorem ga_ds_signals {sl b1 b2 b3 b4 b5 b6 b7 b8 bp : Addr} {Q : AV → Led → Prop} (G : Ps c K) (mi : (x, MO.ins 651 d) ∈ σ) (mf : (d, MO.fld (dsF sl b1 b2 b3 b4 b5 b6 b7 b8 bp)) ∈ σ) (h : Q (.ref sl) σ) : Op1 c A (fun o => getAttr o (Str.ofString "signals") true) er (.ref x) σ Q := g_attr G.X G.c_Design.pl mi mf G.a_Design_signals fg_ds_signals (by first | rfl | (cases mem <;> rfl)) h
theorem ga_ds_by_path {sl b1 b2 b3 b4 b5 b6 b7 b8 bp : Addr} {Q : AV → Led → Prop} (G : Ps c K) (mi : (x, MO.ins 651 d) ∈ σ) (mf : (d, MO.fld (dsF sl b1 b2 b3 b4 b5 b6 b7 b8 bp)) ∈ σ) (h : Q (.ref bp) σ) : Op1 c A (fun o => getAttr o (Str.ofString "by_path") true) er (.ref x) σ Q := g_attr G.X G.c_Design.pl mi mf G.a_Design_by_path fg_ds_by_path (by first | rfl | (cases mem <;> rfl)) h
theorem gm_ds_add_signal {sl b1 b2 b3 b4 b5 b6 b7 b8 bp : Addr} {Q : AV → List AV → Led → Prop} (G : Ps c K) (mi : (x, MO.ins 651 d) ∈ σ) (mf : (d, MO.fld (dsF sl b1 b2 b3 b4 b5 b6 b7 b8 bp)) ∈ σ) (h : Q (.ref 613) [.ref x] σ) : Gm c A (.ref x) (Str.ofString "add_signal") σ Q := g_meth G.X G.c_Design.pl mi mf G.t_Design_add_signal.fd G.t_Design_add_signal.ty fn_ds_add_signal h
theorem ga_sig_first1 {k w : Nat} {pth : Str} {Q : AV → Led → Prop} (G : Ps c K) (mi : (x, MO.ins 588 d) ∈ σ) (mf : (d, MO.fld (sigF k w pth true)) ∈ σ) (h : Q (.int 1) σ) : Op1 c A (fun o => getAttr o (Str.ofString "first") true) er (.ref x) σ Q := ga_sig_first G mi mf h
theorem ga_sig_last1 {k w : Nat} {pth : Str} {Q : AV → Led → Prop} (G : Ps c K) (mi : (x, MO.ins 588 d) ∈ σ) (mf : (d, MO.fld (sigF k w pth true)) ∈ σ) (h : Q (.int 4) σ) : Op1 c A (fun o => getAttr o (Str.ofString "last") true) er (.ref x) σ Q := ga_sig_last G mi mf h
theorem sa_sig_key {σ' : Led} {r : List (Str × AV)} {v : AV} {N : Led → Prop} (G : Ps c K) (mi : (x, MO.ins 588 d) ∈ σ) (U : Up d (.fld r) (.fld (fput r (Str.ofString "key") v)) σ σ') (hl : r.length ≤ 500) (h : N σ') : Sa c A (.ref x) (Str.ofString "key") v σ N := sa_fld G.X G.c_Signal.pl mi U rfl G.s_Signal_key hl h
theorem sa_sig_path {σ' : Led} {r : List (Str × AV)} {v : AV} {N : Led → Prop} (G : Ps c K) (mi : (x, MO.ins 588 d) ∈ σ) (U : Up d (.fld r) (.fld (fput r (Str.ofString "path") v)) σ σ') (hl : r.length ≤ 500) (h : N σ') : Sa c A (.ref x) (Str.ofString "path") v σ N := sa_fld G.X G.c_Signal.pl mi U rfl G.s_Signal_path hl h
theorem sa_sig_kind {σ' : Led} {r : List (Str × AV)} {v : AV} {N : Led → Prop} (G : Ps c K) (mi : (x, MO.ins 588 d) ∈ σ) (U : Up d (.fld r) (.fld (fput r (Str.ofString "kind") v)) σ σ') (hl : r.length ≤ 500) (h : N σ') : Sa c A (.ref x) (Str.ofString "kind") v σ N := sa_fld G.X G.c_Signal.pl mi U rfl G.s_Signal_kind hl h
theorem sa_sig_width {σ' : Led} {r : List (Str × AV)} {v : AV} {N : Led → Prop} (G : Ps c K) (mi : (x, MO.ins 588 d) ∈ σ) (U : Up d (.fld r) (.fld (fput r (Str.ofString "width") v)) σ σ') (hl : r.length ≤ 500) (h : N σ') : Sa c A (.ref x) (Str.ofString "width") v σ N := sa_fld G.X G.c_Signal.pl mi U rfl G.s_Signal_width hl h
theorem sa_sig_signed {σ' : Led} {r : List (Str × AV)} {v : AV} {N : Led → Prop} (G : Ps c K) (mi : (x, MO.ins 588 d) ∈ σ) (U : Up d (.fld r) (.fld (fput r (Str.ofString "signed") v)) σ σ') (hl : r.length ≤ 500) (h : N σ') : Sa c A (.ref x) (Str.ofString "signed") v σ N := sa_fld G.X G.c_Signal.pl mi U rfl G.s_Signal_signed hl h
theorem sa_sig_msb {σ' : Led} {r : List (Str × AV)} {v : AV} {N : Led → Prop} (G : Ps c K) (mi : (x, MO.ins 588 d) ∈ σ) (U : Up d (.fld r) (.fld (fput r (Str.ofString "msb") v)) σ σ') (hl : r.length ≤ 500) (h : N σ') : Sa c A (.ref x) (Str.ofString "msb") v σ N := sa_fld G.X G.c_Signal.pl mi U rfl G.s_Signal_msb hl h
theorem sa_sig_lsb {σ' : Led} {r : List (Str × AV)} {v : AV} {N : Led → Prop} (G : Ps c K) (mi : (x, MO.ins 588 d) ∈ σ) (U : Up d (.fld r) (.fld (fput r (Str.ofString "lsb") v)) σ σ') (hl : r.length ≤ 500) (h : N σ') : Sa c A (.ref x) (Str.ofString "lsb") v σ N := sa_fld G.X G.c_Signal.pl mi U rfl G.s_Signal_lsb hl h
theorem sa_sig_first {σ' : Led} {r : List (Str × AV)} {v : AV} {N : Led → Prop} (G : Ps c K) (mi : (x, MO.ins 588 d) ∈ σ) (U : Up d (.fld r) (.fld (fput r (Str.ofString "first") v)) σ σ') (hl : r.length ≤ 500) (h : N σ') : Sa c A (.ref x) (Str.ofString "first") v σ N := sa_fld G.X G.c_Signal.pl mi U rfl G.s_Signal_first hl h
theorem sa_sig_last {σ' : Led} {r : List (Str × AV)} {v : AV} {N : Led → Prop} (G : Ps c K) (mi : (x, MO.ins 588 d) ∈ σ) (U : Up d (.fld r) (.fld (fput r (Str.ofString "last") v)) σ σ') (hl : r.length ≤ 500) (h : N σ') : Sa c A (.ref x) (Str.ofString "last") v σ N := sa_fld G.X G.c_Signal.pl mi U rfl G.s_Signal_last hl h
theorem sa_sig_init {σ' : Led} {r : List (Str × AV)} {v : AV} {N : Led → Prop} (G : Ps c K) (mi : (x, MO.ins 588 d) ∈ σ) (U : Up d (.fld r) (.fld (fput r (Str.ofString "init") v)) σ σ') (hl : r.length ≤ 500) (h : N σ') : Sa c A (.ref x) (Str.ofString "init") v σ N := sa_fld G.X G.c_Signal.pl mi U rfl G.s_Signal_init hl h
theorem sa_sig_at {σ' : Led} {r : List (Str × AV)} {v : AV} {N : Led → Prop} (G : Ps c K) (mi : (x, MO.ins 588 d) ∈ σ) (U : Up d (.fld r) (.fld (fput r (Str.ofString "at") v)) σ σ') (hl : r.length ≤ 500) (h : N σ') : Sa c A (.ref x) (Str.ofString "at") v σ N := sa_fld G.X G.c_Signal.pl mi U rfl G.s_Signal_at hl h
theorem sa_sig_scalar {σ' : Led} {r : List (Str × AV)} {v : AV} {N : Led → Prop} (G : Ps c K) (mi : (x, MO.ins 588 d) ∈ σ) (U : Up d (.fld r) (.fld (fput r (Str.ofString "scalar") v)) σ σ') (hl : r.length ≤ 500) (h : N σ') : Sa c A (.ref x) (Str.ofString "scalar") v σ N := sa_fld G.X G.c_Signal.pl mi U rfl G.s_Signal_scalar hl h
theorem sa_st_signals {σ' : Led} {r : List (Str × AV)} {v : AV} {N : Led → Prop} (G : Ps c K) (mi : (x, MO.ins 693 d) ∈ σ) (U : Up d (.fld r) (.fld (fput r (Str.ofString "signals") v)) σ σ') (hl : r.length ≤ 500) (h : N σ') : Sa c A (.ref x) (Str.ofString "signals") v σ N := sa_fld G.X G.c_Store.pl mi U rfl G.s_Store_signals hl h
theorem sa_st_values {σ' : Led} {r : List (Str × AV)} {v : AV} {N : Led → Prop} (G : Ps c K) (mi : (x, MO.ins 693 d) ∈ σ) (U : Up d (.fld r) (.fld (fput r (Str.ofString "values") v)) σ σ') (hl : r.length ≤ 500) (h : N σ') : Sa c A (.ref x) (Str.ofString "values") v σ N := sa_fld G.X G.c_Store.pl mi U rfl G.s_Store_values hl h
theorem sa_st_memories {σ' : Led} {r : List (Str × AV)} {v : AV} {N : Led → Prop} (G : Ps c K) (mi : (x, MO.ins 693 d) ∈ σ) (U : Up d (.fld r) (.fld (fput r (Str.ofString "memories") v)) σ σ') (hl : r.length ≤ 500) (h : N σ') : Sa c A (.ref x) (Str.ofString "memories") v σ N := sa_fld G.X G.c_Store.pl mi U rfl G.s_Store_memories hl h
theorem sa_st_random_seed {σ' : Led} {r : List (Str × AV)} {v : AV} {N : Led → Prop} (G : Ps c K) (mi : (x, MO.ins 693 d) ∈ σ) (U : Up d (.fld r) (.fld (fput r (Str.ofString "random_seed") v)) σ σ') (hl : r.length ≤ 500) (h : N σ') : Sa c A (.ref x) (Str.ofString "random_seed") v σ N := sa_fld G.X G.c_Store.pl mi U rfl G.s_Store_random_seed hl h
theorem sa_ct_store {σ' : Led} {r : List (Str × AV)} {v : AV} {N : Led → Prop} (G : Ps c K) (mi : (x, MO.ins 736 d) ∈ σ) (U : Up d (.fld r) (.fld (fput r (Str.ofString "store") v)) σ σ') (hl : r.length ≤ 500) (h : N σ') : Sa c A (.ref x) (Str.ofString "store") v σ N := sa_fld G.X G.c_Context.pl mi U rfl G.s_Context_store hl h
theorem sa_ct_frame {σ' : Led} {r : List (Str × AV)} {v : AV} {N : Led → Prop} (G : Ps c K) (mi : (x, MO.ins 736 d) ∈ σ) (U : Up d (.fld r) (.fld (fput r (Str.ofString "frame") v)) σ σ') (hl : r.length ≤ 500) (h : N σ') : Sa c A (.ref x) (Str.ofString "frame") v σ N := sa_fld G.X G.c_Context.pl mi U rfl G.s_Context_frame hl h
theorem sa_ct_now {σ' : Led} {r : List (Str × AV)} {v : AV} {N : Led → Prop} (G : Ps c K) (mi : (x, MO.ins 736 d) ∈ σ) (U : Up d (.fld r) (.fld (fput r (Str.ofString "now") v)) σ σ') (hl : r.length ≤ 500) (h : N σ') : Sa c A (.ref x) (Str.ofString "now") v σ N := sa_fld G.X G.c_Context.pl mi U rfl G.s_Context_now hl h
theorem sa_ds_signals {σ' : Led} {r : List (Str × AV)} {v : AV} {N : Led → Prop} (G : Ps c K) (mi : (x, MO.ins 651 d) ∈ σ) (U : Up d (.fld r) (.fld (fput r (Str.ofString "signals") v)) σ σ') (hl : r.length ≤ 500) (h : N σ') : Sa c A (.ref x) (Str.ofString "signals") v σ N := sa_fld G.X G.c_Design.pl mi U rfl G.s_Design_signals hl h
theorem sa_ds_assigns {σ' : Led} {r : List (Str × AV)} {v : AV} {N : Led → Prop} (G : Ps c K) (mi : (x, MO.ins 651 d) ∈ σ) (U : Up d (.fld r) (.fld (fput r (Str.ofString "assigns") v)) σ σ') (hl : r.length ≤ 500) (h : N σ') : Sa c A (.ref x) (Str.ofString "assigns") v σ N := sa_fld G.X G.c_Design.pl mi U rfl G.s_Design_assigns hl h
theorem sa_ds_gates {σ' : Led} {r : List (Str × AV)} {v : AV} {N : Led → Prop} (G : Ps c K) (mi : (x, MO.ins 651 d) ∈ σ) (U : Up d (.fld r) (.fld (fput r (Str.ofString "gates") v)) σ σ') (hl : r.length ≤ 500) (h : N σ') : Sa c A (.ref x) (Str.ofString "gates") v σ N := sa_fld G.X G.c_Design.pl mi U rfl G.s_Design_gates hl h
theorem sa_ds_udps {σ' : Led} {r : List (Str × AV)} {v : AV} {N : Led → Prop} (G : Ps c K) (mi : (x, MO.ins 651 d) ∈ σ) (U : Up d (.fld r) (.fld (fput r (Str.ofString "udps") v)) σ σ') (hl : r.length ≤ 500) (h : N σ') : Sa c A (.ref x) (Str.ofString "udps") v σ N := sa_fld G.X G.c_Design.pl mi U rfl G.s_Design_udps hl h
theorem sa_ds_processes {σ' : Led} {r : List (Str × AV)} {v : AV} {N : Led → Prop} (G : Ps c K) (mi : (x, MO.ins 651 d) ∈ σ) (U : Up d (.fld r) (.fld (fput r (Str.ofString "processes") v)) σ σ') (hl : r.length ≤ 500) (h : N σ') : Sa c A (.ref x) (Str.ofString "processes") v σ N := sa_fld G.X G.c_Design.pl mi U rfl G.s_Design_processes hl h
theorem sa_ds_routines {σ' : Led} {r : List (Str × AV)} {v : AV} {N : Led → Prop} (G : Ps c K) (mi : (x, MO.ins 651 d) ∈ σ) (U : Up d (.fld r) (.fld (fput r (Str.ofString "routines") v)) σ σ') (hl : r.length ≤ 500) (h : N σ') : Sa c A (.ref x) (Str.ofString "routines") v σ N := sa_fld G.X G.c_Design.pl mi U rfl G.s_Design_routines hl h
theorem sa_ds_scopes {σ' : Led} {r : List (Str × AV)} {v : AV} {N : Led → Prop} (G : Ps c K) (mi : (x, MO.ins 651 d) ∈ σ) (U : Up d (.fld r) (.fld (fput r (Str.ofString "scopes") v)) σ σ') (hl : r.length ≤ 500) (h : N σ') : Sa c A (.ref x) (Str.ofString "scopes") v σ N := sa_fld G.X G.c_Design.pl mi U rfl G.s_Design_scopes hl h
theorem sa_ds_tops {σ' : Led} {r : List (Str × AV)} {v : AV} {N : Led → Prop} (G : Ps c K) (mi : (x, MO.ins 651 d) ∈ σ) (U : Up d (.fld r) (.fld (fput r (Str.ofString "tops") v)) σ σ') (hl : r.length ≤ 500) (h : N σ') : Sa c A (.ref x) (Str.ofString "tops") v σ N := sa_fld G.X G.c_Design.pl mi U rfl G.s_Design_tops hl h
theorem sa_ds_ports {σ' : Led} {r : List (Str × AV)} {v : AV} {N : Led → Prop} (G : Ps c K) (mi : (x, MO.ins 651 d) ∈ σ) (U : Up d (.fld r) (.fld (fput r (Str.ofString "ports") v)) σ σ') (hl : r.length ≤ 500) (h : N σ') : Sa c A (.ref x) (Str.ofString "ports") v σ N := sa_fld G.X G.c_Design.pl mi U rfl G.s_Design_ports hl h
theorem sa_ds_maker {σ' : Led} {r : List (Str × AV)} {v : AV} {N : Led → Prop} (G : Ps c K) (mi : (x, MO.ins 651 d) ∈ σ) (U : Up d (.fld r) (.fld (fput r (Str.ofString "maker") v)) σ σ') (hl : r.length ≤ 500) (h : N σ') : Sa c A (.ref x) (Str.ofString "maker") v σ N := sa_fld G.X G.c_Design.pl mi U rfl G.s_Design_maker hl h
theorem sa_ds_by_path {σ' : Led} {r : List (Str × AV)} {v : AV} {N : Led → Prop} (G : Ps c K) (mi : (x, MO.ins 651 d) ∈ σ) (U : Up d (.fld r) (.fld (fput r (Str.ofString "by_path") v)) σ σ') (hl : r.length ≤ 500) (h : N σ') : Sa c A (.ref x) (Str.ofString "by_path") v σ N := sa_fld G.X G.c_Design.pl mi U rfl G.s_Design_by_path hl h
end
end
set_option compiler.extract_closed false
set_option maxRecDepth 20000
section
variable {c : Cx} {K : Frag} {A : Around} {env : Env} {L : Addr} {names : List (Str × NameKind)} {vals : List (Option AV)} {σ : Led} {x : Str} {v : AV} {pos : Pos}
theorem Gd_of (G : Ps c K) : Gd c := G.toGd
theorem e_localK {Q : AV → Led → Prop} (F : FrOk env L names) (k : KdAt names x .local) (m : (L, .ns names vals) ∈ σ) (l : LocAt names vals x v) (h : Q v σ) : E c A env (.Name x pos) σ Q := e_local F m l h
theorem gl_mask (G : Ps c K) : Gl c (Str.ofString "mask") (.ref 61) := G.f_mask.1
theorem kp_mask (G : Ps c K) : Kp c (.ref 61) := kp_def G.f_mask.2
theorem gl_all_x (G : Ps c K) : Gl c (Str.ofString "all_x") (.ref 83) := G.f_all_x.1
theorem kp_all_x (G : Ps c K) : Kp c (.ref 83) := kp_def G.f_all_x.2
theorem gl_to_int (G : Ps c K) : Gl c (Str.ofString "to_int") (.ref 111) := G.f_to_int.1
theorem kp_to_int (G : Ps c K) : Kp c (.ref 111) := kp_def G.f_to_int.2
theorem gl_slice_vec (G : Ps c K) : Gl c (Str.ofString "slice_vec") (.ref 125) := G.f_slice_vec.1
theorem kp_slice_vec (G : Ps c K) : Kp c (.ref 125) := kp_def G.f_slice_vec.2
theorem gl_put_slice (G : Ps c K) : Gl c (Str.ofString "put_slice") (.ref 132) := G.f_put_slice.1
theorem kp_put_slice (G : Ps c K) : Kp c (.ref 132) := kp_def G.f_put_slice.2
theorem gl_whole_of (G : Ps c K) : Gl c (Str.ofString "whole_of") (.ref 461) := G.f_whole_of.1
theorem kp_whole_of (G : Ps c K) : Kp c (.ref 461) := kp_def G.f_whole_of.2
theorem gl_evaluate (G : Ps c K) : Gl c (Str.ofString "evaluate") (.ref 501) := G.f_evaluate.1
theorem kp_evaluate (G : Ps c K) : Kp c (.ref 501) := kp_def G.f_evaluate.2
theorem gl_locate (G : Ps c K) : Gl c (Str.ofString "locate") (.ref 508) := G.f_locate.1
theorem kp_locate (G : Ps c K) : Kp c (.ref 508) := kp_def G.f_locate.2
theorem gl_holder_width (G : Ps c K) : Gl c (Str.ofString "holder_width") (.ref 515) := G.f_holder_width.1
theorem kp_holder_width (G : Ps c K) : Kp c (.ref 515) := kp_def G.f_holder_width.2
theorem gl_resolve_target (G : Ps c K) : Gl c (Str.ofString "resolve_target") (.ref 522) := G.f_resolve_target.1
theorem kp_resolve_target (G : Ps c K) : Kp c (.ref 522) := kp_def G.f_resolve_target.2
theorem gl_store_rows (G : Ps c K) : Gl c (Str.ofString "store_rows") (.ref 529) := G.f_store_rows.1
theorem kp_store_rows (G : Ps c K) : Kp c (.ref 529) := kp_def G.f_store_rows.2
theorem gl_net_kinds (G : Ps c K) : Gl c (Str.ofString "net_kinds") (.ref 536) := G.f_net_kinds.1
theorem kp_net_kinds (G : Ps c K) : Kp c (.ref 536) := kp_def G.f_net_kinds.2
theorem gl__law_row (G : Ps c K) : Gl c (Str.ofString "_law_row") (.ref 747) := G.f__law_row.1
theorem kp__law_row (G : Ps c K) : Kp c (.ref 747) := kp_def G.f__law_row.2
theorem gl__law_next (G : Ps c K) : Gl c (Str.ofString "_law_next") (.ref 754) := G.f__law_next.1
theorem kp__law_next (G : Ps c K) : Kp c (.ref 754) := kp_def G.f__law_next.2
theorem gl__law_bits (G : Ps c K) : Gl c (Str.ofString "_law_bits") (.ref 761) := G.f__law_bits.1
theorem kp__law_bits (G : Ps c K) : Kp c (.ref 761) := kp_def G.f__law_bits.2
theorem gl__law_made (G : Ps c K) : Gl c (Str.ofString "_law_made") (.ref 768) := G.f__law_made.1
theorem kp__law_made (G : Ps c K) : Kp c (.ref 768) := kp_def G.f__law_made.2
theorem gl__law_const (G : Ps c K) : Gl c (Str.ofString "_law_const") (.ref 775) := G.f__law_const.1
theorem kp__law_const (G : Ps c K) : Kp c (.ref 775) := kp_def G.f__law_const.2
theorem gl__law_whole (G : Ps c K) : Gl c (Str.ofString "_law_whole") (.ref 782) := G.f__law_whole.1
theorem kp__law_whole (G : Ps c K) : Kp c (.ref 782) := kp_def G.f__law_whole.2
theorem gl__law_amount (G : Ps c K) : Gl c (Str.ofString "_law_amount") (.ref 787) := G.f__law_amount.1
theorem kp__law_amount (G : Ps c K) : Kp c (.ref 787) := kp_def G.f__law_amount.2
theorem gl__law_part (G : Ps c K) : Gl c (Str.ofString "_law_part") (.ref 794) := G.f__law_part.1
theorem kp__law_part (G : Ps c K) : Kp c (.ref 794) := kp_def G.f__law_part.2
theorem gl__law_source (G : Ps c K) : Gl c (Str.ofString "_law_source") (.ref 801) := G.f__law_source.1
theorem kp__law_source (G : Ps c K) : Kp c (.ref 801) := kp_def G.f__law_source.2
theorem gl__law_low (G : Ps c K) : Gl c (Str.ofString "_law_low") (.ref 808) := G.f__law_low.1
theorem kp__law_low (G : Ps c K) : Kp c (.ref 808) := kp_def G.f__law_low.2
theorem gl__law_write (G : Ps c K) : Gl c (Str.ofString "_law_write") (.ref 815) := G.f__law_write.1
theorem kp__law_write (G : Ps c K) : Kp c (.ref 815) := kp_def G.f__law_write.2
theorem gl_Signal (G : Ps c K) : Gl c (Str.ofString "Signal") (.ref 588) := G.c_Signal.gl
theorem kp_Signal (G : Ps c K) : Kp c (.ref 588) := kp_cls G.X G.c_Signal.kp
theorem gl_Design (G : Ps c K) : Gl c (Str.ofString "Design") (.ref 651) := G.c_Design.gl
theorem kp_Design (G : Ps c K) : Kp c (.ref 651) := kp_cls G.X G.c_Design.kp
theorem gl_Store (G : Ps c K) : Gl c (Str.ofString "Store") (.ref 693) := G.c_Store.gl
theorem kp_Store (G : Ps c K) : Kp c (.ref 693) := kp_cls G.X G.c_Store.kp
theorem gl_Context (G : Ps c K) : Gl c (Str.ofString "Context") (.ref 736) := G.c_Context.gl
theorem kp_Context (G : Ps c K) : Kp c (.ref 736) := kp_cls G.X G.c_Context.kp
theorem kp_Signal_init (G : Ps c K) : Kp c (.ref 550) := kp_def G.m_Signal_init
theorem kp_Signal_is_net (G : Ps c K) : Kp c (.ref 557) := kp_def G.m_Signal_is_net
theorem kp_Signal_words (G : Ps c K) : Kp c (.ref 571) := kp_def G.m_Signal_words
theorem kp_Signal_place (G : Ps c K) : Kp c (.ref 585) := kp_def G.m_Signal_place
theorem kp_Design_init (G : Ps c K) : Kp c (.ref 606) := kp_def G.m_Design_init
theorem kp_Design_add_signal (G : Ps c K) : Kp c (.ref 613) := kp_def G.m_Design_add_signal
theorem kp_Store_init (G : Ps c K) : Kp c (.ref 669) := kp_def G.m_Store_init
theorem kp_Store_get (G : Ps c K) : Kp c (.ref 676) := kp_def G.m_Store_get
theorem kp_Store_word (G : Ps c K) : Kp c (.ref 683) := kp_def G.m_Store_word
theorem kp_Store_set_bits (G : Ps c K) : Kp c (.ref 690) := kp_def G.m_Store_set_bits
end
local macro_rules | `(tactic| wtm_at "Mhs") => `(tactic| first | (unfold autoParam; intros; with_unfolding_all rfl) | (intros; with_unfolding_all rfl))
local macro_rules | `(tactic| wtm_at "Mgl") => `(tactic| first
  | ((first | refine' gl_mask ?g | refine' gl_all_x ?g | refine' gl_to_int ?g | refine' gl_slice_vec ?g | refine' gl_put_slice ?g | refine' gl_whole_of ?g | refine' gl_evaluate ?g | refine' gl_locate ?g | refine' gl_holder_width ?g | refine' gl_resolve_target ?g | refine' gl_store_rows ?g | refine' gl_net_kinds ?g | refine' gl__law_row ?g | refine' gl__law_next ?g | refine' gl__law_bits ?g | refine' gl__law_made ?g | refine' gl__law_const ?g | refine' gl__law_whole ?g | refine' gl__law_amount ?g | refine' gl__law_part ?g | refine' gl__law_source ?g | refine' gl__law_low ?g | refine' gl__law_write ?g | refine' gl_Signal ?g | refine' gl_Design ?g | refine' gl_Store ?g | refine' gl_Context ?g | refine' Ps.b_max ?g | refine' Ps.b_min ?g | refine' Ps.b_abs ?g | refine' Ps.b_len ?g | refine' Ps.b_range ?g | refine' Ps.b_sorted ?g | refine' Ps.b_tuple ?g | refine' Ps.b_list ?g | refine' Ps.b_sum ?g); (case g => assumption)))
local macro_rules | `(tactic| wtm_at "Mkp") => `(tactic| first
  | exact kp_builtin _
  | exact kp_type _
  | ((first | refine' kp_mask ?g | refine' kp_all_x ?g | refine' kp_to_int ?g | refine' kp_slice_vec ?g | refine' kp_put_slice ?g | refine' kp_whole_of ?g | refine' kp_evaluate ?g | refine' kp_locate ?g | refine' kp_holder_width ?g | refine' kp_resolve_target ?g | refine' kp_store_rows ?g | refine' kp_net_kinds ?g | refine' kp__law_row ?g | refine' kp__law_next ?g | refine' kp__law_bits ?g | refine' kp__law_made ?g | refine' kp__law_const ?g | refine' kp__law_whole ?g | refine' kp__law_amount ?g | refine' kp__law_part ?g | refine' kp__law_source ?g | refine' kp__law_low ?g | refine' kp__law_write ?g | refine' kp_Signal ?g | refine' kp_Design ?g | refine' kp_Store ?g | refine' kp_Context ?g | refine' kp_Signal_init ?g | refine' kp_Signal_is_net ?g | refine' kp_Signal_words ?g | refine' kp_Signal_place ?g | refine' kp_Design_init ?g | refine' kp_Design_add_signal ?g | refine' kp_Store_init ?g | refine' kp_Store_get ?g | refine' kp_Store_word ?g | refine' kp_Store_set_bits ?g); (case g => assumption)))
local macro_rules | `(tactic| wtm_at "Mmem") => `(tactic| (focus ((repeat (first | exact List.mem_cons_self | assumption | apply List.mem_cons_of_mem | (apply List.mem_append_left; assumption) | apply List.mem_append_right)); done)))
local macro_rules | `(tactic| wtm_at "Mloc") => `(tactic| (focus ((repeat (first | exact LocAt.here | apply LocAt.there)); done)))
local macro_rules | `(tactic| wtm_at "Mkd") => `(tactic| (focus ((repeat (first | exact KdAt.here | apply KdAt.there)); done)))
local macro_rules | `(tactic| wtm_at "Mst") => `(tactic| (focus ((repeat (first | exact StAt.here | apply StAt.there)); done)))
local macro_rules | `(tactic| wtm_at "Mup") => `(tactic| (focus ((repeat (first | assumption | exact Up.here | apply Up.there | (apply Up.left; assumption) | apply Up.skip)); done)))
local macro_rules | `(tactic| wtm_at "Mrem") => `(tactic| (focus ((repeat (first | exact Rem.here | apply Rem.there | apply Rem.skip)); done)))
local macro_rules | `(tactic| wtm_at "Mreml") => `(tactic| (focus ((repeat (first | exact RemL.here | exact RemL.all | apply RemL.there | apply RemL.skip)); done)))
local macro_rules | `(tactic| wtm_at "Msb") => `(tactic| (focus ((repeat (first | exact Sb.same | exact Sb.nil | (apply Sb.cons; wtm_at "Mrem") | (apply Sb.consL; wtm_at "Mreml") | apply Sb.skip | apply Sb.skipL)); done)))
local macro_rules | `(tactic| wtm_at "Mstep") => `(tactic| first
  | refine' e_int ?z
  | refine' e_localK ?z0 ?z1 ?z2 ?z3 ?z; (case z0 => assumption); (case z1 => wtm_at "Mkd"); (case z2 => wtm_at "Mmem"); (case z3 => wtm_at "Mloc")
  | refine' e_globR ?z0 ?z1 ?z2 ?z; (case z0 => assumption); (case z1 => wtm_at "Mkd"); (case z2 => wtm_at "Mgl")
  | refine' e_globB ?z0 ?z1 ?z2 ?z; (case z0 => assumption); (case z1 => wtm_at "Mkd"); (case z2 => wtm_at "Mgl")
  | refine' e_globT ?z0 ?z1 ?z2 ?z; (case z0 => assumption); (case z1 => wtm_at "Mkd"); (case z2 => wtm_at "Mgl")
  | refine' e_cell ?z0 ?z1 ?z2 ?z3 ?z; (case z0 => assumption); (case z1 => wtm_at "Mkd"); (case z2 => assumption); (case z3 => wtm_at "Mmem")
  | refine' o_storec ?z0 ?z1 ?z2 ?z3 ?z; (case z0 => assumption); (case z1 => wtm_at "Mkd"); (case z2 => assumption); (case z3 => wtm_at "Mup")
  | refine' x_cons ?z
  | refine' x_nil ?z
  | refine' x_ret ?z
  | refine' x_if ?z
  | refine' x_assign ?z ?hs; (case hs => wtm_at "Mhs")
  | refine' x_aug ?z
  | refine' x_for ?z ?hs; (case hs => wtm_at "Mhs")
  | refine' x_cont ?z
  | refine' x_expr ?z0 ?z ?hs; (case z0 => assumption); (case hs => wtm_at "Mhs")
  | refine' x_setitem ?z ?hs; (case hs => wtm_at "Mhs")
  | refine' x_setattr ?z ?hs; (case hs => wtm_at "Mhs")
  | refine' x_unpack ?z ?hs ?hw; (case hs => wtm_at "Mhs"); (case hw => wtm_at "Mhs")
  | refine' o_store ?z0 ?z1 ?z2 ?z; (case z0 => assumption); (case z1 => wtm_at "Mup"); (case z2 => wtm_at "Mst")
  | refine' o_name ?z
  | refine' n_local ?z0 ?z1 ?z2 ?z; (case z0 => assumption); (case z1 => wtm_at "Mmem"); (case z2 => wtm_at "Mloc")
  | refine' And.intro ?z0 ?z; (case z0 => wtm_at "Mkp")
  | refine' s_cons ?z ?he; (case he => wtm_at "Mhs")
  | refine' s_nil ?z
  | refine' as_cons ?z
  | refine' as_nil ?z
  | refine' e_bin ?z
  | refine' e_cmp ?z ?hm; (case hm => wtm_at "Mhs")
  | refine' e_str ?z
  | refine' e_none ?z
  | refine' e_bool ?z
  | refine' e_ifexp ?z
  | refine' e_call0 ?z ?he; (case he => wtm_at "Mhs")
  | refine' e_meth0 ?z ?he; (case he => wtm_at "Mhs")
  | refine' e_meth ?z ?he ?h1 ?h2; (case he => wtm_at "Mhs"); (case h1 => wtm_at "Mhs"); (case h2 => wtm_at "Mhs")
  | refine' e_call ?z ?he ?h1 ?h2; (case he => wtm_at "Mhs"); (case h1 => wtm_at "Mhs"); (case h2 => wtm_at "Mhs")
  | refine' e_attr ?z ?he; (case he => wtm_at "Mhs")
  | refine' e_upto ?z ?ht; (case ht => wtm_at "Mhs")
  | refine' e_from ?z ?ht; (case ht => wtm_at "Mhs")
  | refine' e_sub ?z
  | refine' e_tuple ?z
  | refine' e_list ?z
  | refine' e_dict0 ?z
  | refine' e_and ?z
  | refine' e_neg ?z
  | refine' u_neg ?z
  | refine' call_app ?z
  | refine' e_bool1 ?z
  | refine' t_cmp ?z ?hm; (case hm => wtm_at "Mhs")
  | refine' t_not ?z
  | refine' t_and ?z
  | refine' t_and0 ?z
  | refine' t_or ?z
  | refine' t_or0 ?z
  | refine' t_chain ?z ?hm; (case hm => wtm_at "Mhs")
  | refine' t_plain ?z ?he; (case he => wtm_at "Mhs")
  | refine' u_tup ?z0 ?z1 ?z2 ?z3 ?z ?hs; (case z0 => wtm_at "Mmem"); (case z1 => omega); (case z2 => omega); (case z3 => with_unfolding_all rfl); (case hs => wtm_at "Mhs")
  | refine' u_list ?z0 ?z1 ?z2 ?z3 ?z ?hs; (case z0 => wtm_at "Mmem"); (case z1 => omega); (case z2 => omega); (case z3 => with_unfolding_all rfl); (case hs => wtm_at "Mhs")
  | refine' o_tup ?z0 ?z1 ?z2 ?z ?he; (case z0 => (refine' Rm.hd ?g; (case g => assumption))); (case z1 => wtm_at "Mmem"); (case z2 => with_unfolding_all rfl); (case he => wtm_at "Mhs")
  | refine' ga_sig_last1 ?z0 ?z1 ?z2 ?z; (case z0 => assumption); (case z1 => wtm_at "Mmem"); (case z2 => wtm_at "Mmem")
  | refine' ga_sig_first1 ?z0 ?z1 ?z2 ?z; (case z0 => assumption); (case z1 => wtm_at "Mmem"); (case z2 => wtm_at "Mmem")
  | ((first | refine' ga_sig_key ?z0 ?z1 ?z2 ?z | refine' ga_sig_path ?z0 ?z1 ?z2 ?z | refine' ga_sig_kind ?z0 ?z1 ?z2 ?z | refine' ga_sig_width ?z0 ?z1 ?z2 ?z | refine' ga_sig_signed ?z0 ?z1 ?z2 ?z | refine' ga_sig_msb ?z0 ?z1 ?z2 ?z | refine' ga_sig_lsb ?z0 ?z1 ?z2 ?z | refine' ga_sig_first ?z0 ?z1 ?z2 ?z | refine' ga_sig_last ?z0 ?z1 ?z2 ?z | refine' ga_sig_init ?z0 ?z1 ?z2 ?z | refine' ga_sig_at ?z0 ?z1 ?z2 ?z | refine' ga_sig_scalar ?z0 ?z1 ?z2 ?z | refine' gm_sig_is_net ?z0 ?z1 ?z2 ?z | refine' gm_sig_words ?z0 ?z1 ?z2 ?z | refine' gm_sig_place ?z0 ?z1 ?z2 ?z); (case z0 => assumption); (case z1 => wtm_at "Mmem"); (case z2 => wtm_at "Mmem"))
  | ((first | refine' ga_st_signals ?z0 ?z1 ?z2 ?z | refine' ga_st_values ?z0 ?z1 ?z2 ?z | refine' ga_st_memories ?z0 ?z1 ?z2 ?z | refine' ga_st_random_seed ?z0 ?z1 ?z2 ?z | refine' gm_st_get ?z0 ?z1 ?z2 ?z | refine' gm_st_word ?z0 ?z1 ?z2 ?z | refine' gm_st_set_bits ?z0 ?z1 ?z2 ?z); (case z0 => assumption); (case z1 => wtm_at "Mmem"); (case z2 => wtm_at "Mmem"))
  | ((first | refine' ga_ct_store ?z0 ?z1 ?z2 ?z | refine' ga_ct_frame ?z0 ?z1 ?z2 ?z | refine' ga_ct_now ?z0 ?z1 ?z2 ?z); (case z0 => assumption); (case z1 => wtm_at "Mmem"); (case z2 => wtm_at "Mmem"))
  | ((first | refine' ga_ds_signals ?z0 ?z1 ?z2 ?z | refine' ga_ds_by_path ?z0 ?z1 ?z2 ?z | refine' gm_ds_add_signal ?z0 ?z1 ?z2 ?z); (case z0 => assumption); (case z1 => wtm_at "Mmem"); (case z2 => wtm_at "Mmem"))
  | refine' g_get ?z0 ?z; (case z0 => wtm_at "Mmem")
  | refine' g_append ?z0 ?z; (case z0 => wtm_at "Mmem")
  | refine' g_pop ?z0 ?z; (case z0 => wtm_at "Mmem")
  | refine' g_reverse ?z0 ?z; (case z0 => wtm_at "Mmem")
  | refine' o_notin_dct ?z0 ?z1 ?z; (case z0 => exact Gd_of (by assumption)); (case z1 => wtm_at "Mmem")
  | refine' b_get ?z0 ?z1 ?z; (case z0 => exact Gd_of (by assumption)); (case z1 => wtm_at "Mmem")
  | ((first | refine' sa_sig_key ?z0 ?z1 ?z2 ?z3 ?z | refine' sa_sig_path ?z0 ?z1 ?z2 ?z3 ?z | refine' sa_sig_kind ?z0 ?z1 ?z2 ?z3 ?z | refine' sa_sig_width ?z0 ?z1 ?z2 ?z3 ?z | refine' sa_sig_signed ?z0 ?z1 ?z2 ?z3 ?z | refine' sa_sig_msb ?z0 ?z1 ?z2 ?z3 ?z | refine' sa_sig_lsb ?z0 ?z1 ?z2 ?z3 ?z | refine' sa_sig_first ?z0 ?z1 ?z2 ?z3 ?z | refine' sa_sig_last ?z0 ?z1 ?z2 ?z3 ?z | refine' sa_sig_init ?z0 ?z1 ?z2 ?z3 ?z | refine' sa_sig_at ?z0 ?z1 ?z2 ?z3 ?z | refine' sa_sig_scalar ?z0 ?z1 ?z2 ?z3 ?z); (case z0 => assumption); (case z1 => wtm_at "Mmem"); (case z2 => wtm_at "Mup"); (case z3 => exact Nat.le_of_ble_eq_true (by kernel_rfl)))
  | ((first | refine' sa_st_signals ?z0 ?z1 ?z2 ?z3 ?z | refine' sa_st_values ?z0 ?z1 ?z2 ?z3 ?z | refine' sa_st_memories ?z0 ?z1 ?z2 ?z3 ?z | refine' sa_st_random_seed ?z0 ?z1 ?z2 ?z3 ?z); (case z0 => assumption); (case z1 => wtm_at "Mmem"); (case z2 => wtm_at "Mup"); (case z3 => exact Nat.le_of_ble_eq_true (by kernel_rfl)))
  | ((first | refine' sa_ct_store ?z0 ?z1 ?z2 ?z3 ?z | refine' sa_ct_frame ?z0 ?z1 ?z2 ?z3 ?z | refine' sa_ct_now ?z0 ?z1 ?z2 ?z3 ?z); (case z0 => assumption); (case z1 => wtm_at "Mmem"); (case z2 => wtm_at "Mup"); (case z3 => exact Nat.le_of_ble_eq_true (by kernel_rfl)))
  | ((first | refine' sa_ds_signals ?z0 ?z1 ?z2 ?z3 ?z | refine' sa_ds_assigns ?z0 ?z1 ?z2 ?z3 ?z | refine' sa_ds_gates ?z0 ?z1 ?z2 ?z3 ?z | refine' sa_ds_udps ?z0 ?z1 ?z2 ?z3 ?z | refine' sa_ds_processes ?z0 ?z1 ?z2 ?z3 ?z | refine' sa_ds_routines ?z0 ?z1 ?z2 ?z3 ?z | refine' sa_ds_scopes ?z0 ?z1 ?z2 ?z3 ?z | refine' sa_ds_tops ?z0 ?z1 ?z2 ?z3 ?z | refine' sa_ds_ports ?z0 ?z1 ?z2 ?z3 ?z | refine' sa_ds_maker ?z0 ?z1 ?z2 ?z3 ?z | refine' sa_ds_by_path ?z0 ?z1 ?z2 ?z3 ?z); (case z0 => assumption); (case z1 => wtm_at "Mmem"); (case z2 => wtm_at "Mup"); (case z3 => exact Nat.le_of_ble_eq_true (by kernel_rfl)))
  | refine' b_abs ?z
  | refine' b_max ?z0 ?z ?hne; (case z0 => (refine' Rm.hd ?g; (case g => assumption))); (case hne => (first | (unfold autoParam; intros; exact List.cons_ne_nil _ _) | (intros; exact List.cons_ne_nil _ _)))
  | refine' b_min ?z0 ?z ?hne; (case z0 => (refine' Rm.hd ?g; (case g => assumption))); (case hne => (first | (unfold autoParam; intros; exact List.cons_ne_nil _ _) | (intros; exact List.cons_ne_nil _ _)))
  | refine' b_len ?z0 ?z1 ?z; (case z0 => wtm_at "Mmem"); (case z1 => omega)
  | refine' b_range1 ?z
  | refine' b_range2 ?z
  | refine' o_add ?z
  | refine' o_sub ?z
  | refine' i_add ?z
  | refine' i_sub ?z
  | refine' o_bandN ?z
  | refine' o_borN ?z
  | refine' o_bxorN ?z
  | refine' o_shrN ?z
  | refine' o_eq ?z
  | refine' o_ne ?z
  | refine' o_lt ?z
  | refine' o_le ?z
  | refine' o_gt ?z
  | refine' o_ge ?z
  | refine' o_isNone ?z
  | refine' o_isNotNone ?z
  | refine' o_eqs ?z)
local macro_rules | `(tactic| wtm_at "Mgo") => `(tactic| repeat (with_reducible wtm_at "Mstep"))
section
set_option maxRecDepth 20000
variable {c : Cx} {A : Around} {σ : Led} {K : Frag}
theorem pow_le60 {n : Nat} (h : n ≤ 60) : 2 ^ n ≤ 2 ^ 60 := Nat.pow_le_pow_right (by decide) h
theorem mask_int (n : Nat) : (1 : Int) * 2 ^ (n : Int).toNat - 1 = ((2 ^ n - 1 : Nat) : Int) := by
  have : 0 < 2 ^ n := Nat.pow_pos (by decide)
  rw [Int.toNat_natCast, Int.one_mul, Int.natCast_sub this]
  push_cast; rfl
theorem lt_mask {n : Nat} (h : n ≤ 60) : 2 ^ n - 1 < 2 ^ 64 := Nat.lt_of_lt_of_le (Nat.sub_lt (Nat.pow_pos (by decide)) (by decide)) (Nat.le_trans (pow_le60 h) (by decide))
theorem c_mask (G : Ps c K) (R : Rm A 1) {n : Nat} (h1 : n ≤ 60) {Q : AV → Led → Prop} (h : Q (.int ((2 ^ n - 1 : Nat) : Int)) σ) : Call c A (.ref 61) [.int (n : Int)] σ Q := by
  refine call_fn (k := 0) G.toGd G.f_mask.2 ok_mask rfl R.room fun L env F => ?_
  simp only [initV, noneV]
  refine x_cons ?_
  wtm_at "Mgo"
  refine o_shl (by omega) (by omega) (by decide) ?_
  wtm_at "Mgo"
  exact ⟨σ, by wtm_at "Msb", by rw [mask_int]; exact h⟩
theorem c_all_x (G : Ps c K) (R : Rm A 2) {n : Nat} (h1 : n ≤ 60) {Q : AV → Led → Prop} (h : ∀ r, Q (.ref r) ((r, .tup (tv (List.replicate n 3))) :: σ)) : Call c A (.ref 83) [.int (n : Int)] σ Q := by
  refine call_fn (k := 1) G.toGd G.f_all_x.2 ok_all_x rfl R.room fun L env F => ?_
  simp only [initV, noneV]
  have R' := R.deeper (env := env)
  refine x_cons ?_
  wtm_at "Mgo"
  refine c_mask G R' h1 ?_
  wtm_at "Mgo"
  refine ⟨by simp, fun r => ⟨(r, .tup (tv (List.replicate n 3))) :: σ, ?_, h r⟩⟩
  simp only [tv, enc_x lo1 rfl, enc_x hi1 rfl, List.length_replicate]
  wtm_at "Msb"
theorem c_slice_vec (G : Ps c K) (R : Rm A 2) {v : Addr} {bits : List Nat} {t w : Nat} (m : (v, .tup (tv bits)) ∈ σ) (hw : 1 ≤ w) (hb : t + w ≤ bits.length) (hl : bits.length ≤ 60) {Q : AV → Led → Prop}
    (h : ∀ r, Q (.ref r) ((r, .tup (tv ((bits.drop t).take w))) :: σ)) : Call c A (.ref 125) [.ref v, .int (t : Int), .int (w : Int)] σ Q := by
  refine call_fn (k := 7) G.toGd G.f_slice_vec.2 ok_slice_vec rfl R.room fun L env F => ?_
  simp only [initV, noneV]
  have R' := R.deeper (env := env)
  refine x_cons ?_
  wtm_at "Mgo"
  rw [show max (t : Int) 0 = (t : Int) by omega]
  wtm_at "Mgo"
  rw [show min ((t : Int) + w) bits.length = ((t + w : Nat) : Int) by push_cast; omega]
  wtm_at "Mgo"
  refine tv_no (by push_cast; omega) ?_
  wtm_at "Mgo"
  rw [show ((t + w : Nat) : Int) - t = (w : Int) by push_cast; omega]
  refine c_mask G R' (by omega) ?_
  wtm_at "Mgo"
  refine c_mask G R' (by omega) ?_
  wtm_at "Mgo"
  rw [show (t : Int) - t = ((0 : Nat) : Int) by omega]
  refine o_shlN (by omega) (Nat.lt_of_lt_of_le (Nat.sub_lt (Nat.pow_pos (by decide)) (by decide)) (Nat.le_trans (pow_le60 (by omega)) (by decide))) ?_
  wtm_at "Mgo"
  refine o_shlN (by omega) (Nat.lt_of_le_of_lt Nat.and_le_right (lt_mask (by omega))) ?_
  wtm_at "Mgo"
  refine o_shlN (by omega) (Nat.lt_of_le_of_lt Nat.and_le_right (lt_mask (by omega))) ?_
  wtm_at "Mgo"
  refine ⟨by simp, fun r => ⟨(r, .tup (tv ((bits.drop t).take w))) :: σ, ?_, h r⟩⟩
  have e : tv ((bits.drop t).take w) = [.int (w : Int), .int (((enc lo1 bits >>> t &&& 2 ^ w - 1) <<< 0 ||| (2 ^ w - 1 ^^^ (2 ^ w - 1) <<< 0) : Nat) : Int), .int (((enc hi1 bits >>> t &&& 2 ^ w - 1) <<< 0 ||| (2 ^ w - 1 ^^^ (2 ^ w - 1) <<< 0) : Nat) : Int)] := by
    unfold tv
    rw [enc_slice, enc_slice, Nat.shiftLeft_zero, Nat.shiftLeft_zero, Nat.shiftLeft_zero, Nat.xor_self, Nat.or_zero, Nat.or_zero, List.length_take, List.length_drop, show min w (bits.length - t) = w by omega]
  rw [e]
  wtm_at "Msb"
theorem c_put_slice (G : Ps c K) (R : Rm A 2) {v p : Addr} {l pc : List Nat} {lo : Int} (m : (v, .tup (tv l)) ∈ σ) (m' : (p, .tup (tv pc)) ∈ σ) (h1 : 0 < lo + pc.length) (h2 : lo < l.length) (hl : l.length ≤ 60) (hl' : 1 ≤ l.length) (hp : pc.length ≤ 60) (hp' : 1 ≤ pc.length) {Q : AV → Led → Prop}
    (h : ∀ r, Q (.ref r) ((r, .tup (tv (put l lo pc))) :: σ)) : Call c A (.ref 132) [.ref v, .int lo, .ref p] σ Q := by
  refine call_fn (k := 7) G.toGd G.f_put_slice.2 ok_put_slice rfl R.room fun L env F => ?_
  simp only [initV, noneV]
  have R' := R.deeper (env := env)
  obtain ⟨f, hf⟩ : ∃ f : Nat, (f : Int) = max lo 0 := ⟨(max lo 0).toNat, by omega⟩
  obtain ⟨n, hn⟩ : ∃ n : Nat, (f : Int) + n = min (lo + pc.length) l.length := ⟨(min (lo + pc.length) (l.length : Int) - f).toNat, by omega⟩
  obtain ⟨s, hs⟩ : ∃ s : Nat, (s : Int) = f - lo := ⟨((f : Int) - lo).toNat, by omega⟩
  refine x_cons ?_
  wtm_at "Mgo"
  rw [← hf]
  wtm_at "Mgo"
  rw [← hn]
  wtm_at "Mgo"
  refine tv_no (by omega) ?_
  wtm_at "Mgo"
  rw [show (f : Int) + n - f = n by omega]
  refine c_mask G R' (by omega) ?_
  wtm_at "Mgo"
  rw [← hs]
  wtm_at "Mgo"
  refine c_mask G R' (by omega) ?_
  wtm_at "Mgo"
  refine o_shlN (by omega) (lt_mask (by omega)) ?_
  wtm_at "Mgo"
  refine o_shlN (by omega) (Nat.lt_of_le_of_lt Nat.and_le_right (lt_mask (by omega))) ?_
  wtm_at "Mgo"
  refine o_shlN (by omega) (Nat.lt_of_le_of_lt Nat.and_le_right (lt_mask (by omega))) ?_
  wtm_at "Mgo"
  refine ⟨by simp, fun r => ⟨(r, .tup (tv (put l lo pc))) :: σ, ?_, h r⟩⟩
  have e : tv (put l lo pc) = [.int (l.length : Int), .int (((enc lo1 l &&& ((2 ^ l.length - 1) ^^^ ((2 ^ n - 1) <<< f))) ||| (((enc lo1 pc >>> s) &&& (2 ^ n - 1)) <<< f) : Nat) : Int), .int (((enc hi1 l &&& ((2 ^ l.length - 1) ^^^ ((2 ^ n - 1) <<< f))) ||| (((enc hi1 pc >>> s) &&& (2 ^ n - 1)) <<< f) : Nat) : Int)] := by
    unfold tv
    rw [put_enc lo1 hf hn hs, put_enc hi1 hf hn hs, put_len]
  rw [e]
  wtm_at "Msb"
noncomputable def encB (l : List Nat) : Nat := enc lo1 l
noncomputable def whole (l : List Nat) (sg : Bool) : Option Int := if l.any (fun b => decide (1 < b)) then none else some (if sg = true ∧ l.getLast? = some 1 then (enc lo1 l : Int) - 2 ^ l.length else (enc lo1 l : Int))
noncomputable def ovI : Option Int → AV
  | some n => .int n
  | none => .none
theorem enc_zero {p : Nat → Bool} : ∀ {l : List Nat}, enc p l = 0 ↔ ∀ b ∈ l, p b = false
  | [] => by simp [enc]
  | b :: r => by
    simp only [enc, List.mem_cons, forall_eq_or_imp, ← enc_zero (p := p) (l := r)]
    cases p b <;> simp <;> omega
theorem whole_none {l : List Nat} (hb : Bits l) (h : enc hi1 l ≠ 0) (sg : Bool) : whole l sg = none := by
  unfold whole
  rw [if_pos]
  rw [List.any_eq_true]
  by_cases q : ∃ b ∈ l, decide (1 < b) = true
  · exact q
  · refine absurd (enc_zero.mpr fun b hm => ?_) h
    have : ¬ 1 < b := fun z => q ⟨b, hm, decide_eq_true z⟩
    unfold hi1
    rw [show b / 2 = 0 by omega]; rfl
theorem whole_some {l : List Nat} (hb : Bits l) (h : enc hi1 l = 0) (sg : Bool) : whole l sg = some (if sg = true ∧ l.getLast? = some 1 then (enc lo1 l : Int) - 2 ^ l.length else (enc lo1 l : Int)) := by
  unfold whole
  rw [if_neg]
  rw [List.any_eq_true]
  rintro ⟨b, hm, hd⟩
  have h1 := enc_zero.mp h b hm
  have h2 := hb b hm
  have h3 := of_decide_eq_true hd
  unfold hi1 at h1
  have : b / 2 = 1 := by omega
  rw [this] at h1
  cases h1
theorem top_bit {l : List Nat} (hb : Bits l) (h : enc hi1 l = 0) (hl : 1 ≤ l.length) : enc lo1 l >>> (l.length - 1) = 1 ↔ l.getLast? = some 1 := by
  have e1 : enc lo1 l >>> (l.length - 1) < 2 := by
    rw [Nat.shiftRight_eq_div_pow]
    refine Nat.div_lt_of_lt_mul ?_
    have := enc_lt lo1 l
    rw [← Nat.pow_succ]
    rwa [show (l.length - 1).succ = l.length by omega]
  have e2 := enc_bit lo1 l (l.length - 1)
  rw [← Nat.zero_add (l.length - 1), Nat.add_comm, ← Nat.testBit_shiftRight, Nat.testBit_zero] at e2
  simp only [Nat.zero_add, Nat.add_zero] at e2
  rw [List.getLast?_eq_getElem?]
  have hm : l[l.length - 1]? = some l[l.length - 1] := List.getElem?_eq_getElem (by omega)
  rw [hm] at e2 ⊢
  simp only [Option.map_some, Option.getD_some] at e2
  have hbb := hb _ (List.getElem_mem (l := l) (n := l.length - 1) (by omega))
  have hz := enc_zero.mp h _ (List.getElem_mem (l := l) (n := l.length - 1) (by omega))
  generalize l[l.length - 1] = x at *
  generalize enc lo1 l >>> (l.length - 1) = y at *
  have q : (y % 2 = 1) ↔ (x % 2 = 1) := by
    unfold lo1 at e2
    constructor <;> intro z
    · have : (x % 2 == 1) = true := by rw [← e2]; simpa using z
      simpa using this
    · have : decide (y % 2 = 1) = true := by rw [e2]; simpa using z
      simpa using this
  have hx : x < 2 := by
    unfold hi1 at hz
    have : ¬ x / 2 = 1 := by simpa using hz
    omega
  rw [Option.some.injEq]
  omega
theorem c_to_int (G : Ps c K) (R : Rm A 2) {v : Addr} {l : List Nat} {sg : Bool} (m : (v, .tup (tv l)) ∈ σ) (hb : Bits l) (hl : l.length ≤ 60) (hl' : 1 ≤ l.length) {Q : AV → Led → Prop}
    (h : Q (ovI (whole l sg)) σ) : Call c A (.ref 111) [.ref v, .bool sg] σ Q := by
  refine call_fn (k := 3) G.toGd G.f_to_int.2 ok_to_int rfl R.room fun L env F => ?_
  simp only [initV, noneV]
  have R' := R.deeper (env := env)
  have m1 : (v, MO.tup [.int (l.length : Int), .int (enc lo1 l : Int), .int (enc hi1 l : Int)]) ∈ σ := m
  refine x_cons ?_
  wtm_at "Mgo"
  refine tv_dec (fun q => ?_) (fun q => ?_)
  · wtm_at "Mgo"
    rw [whole_none hb (by omega)] at h
    exact ⟨σ, by wtm_at "Msb", h⟩
  · have hz : enc hi1 l = 0 := by omega
    rw [whole_some hb hz] at h
    wtm_at "Mgo"
    refine tv_bool (fun hs => ?_) (fun hs => ?_)
    · wtm_at "Mgo"
      rw [show (l.length : Int) - 1 = ((l.length - 1 : Nat) : Int) by omega]
      wtm_at "Mgo"
      refine tv_dec (fun q2 => ?_) (fun q2 => ?_)
      · wtm_at "Mgo"
        refine o_shl (by omega) (by omega) (by decide) ?_
        wtm_at "Mgo"
        rw [if_pos ⟨hs, (top_bit hb hz hl').mp (by omega)⟩] at h
        refine ⟨σ, by wtm_at "Msb", ?_⟩
        rw [Int.toNat_natCast, Int.one_mul]
        exact h
      · wtm_at "Mgo"
        rw [if_neg (fun z => q2 (by have := (top_bit hb hz hl').mpr z.2; omega))] at h
        exact ⟨σ, by wtm_at "Msb", h⟩
    · wtm_at "Mgo"
      rw [if_neg (fun z => by rw [hs] at z; cases z.1)] at h
      exact ⟨σ, by wtm_at "Msb", h⟩
end
section
set_option maxRecDepth 20000
variable {c : Cx} {A : Around} {σ : Led} {K : Frag}
noncomputable def cvL (l : List Nat) : List AV := [.str (Str.ofString "const"), .int (l.length : Int), .int (enc lo1 l : Int), .int (enc hi1 l : Int)]
theorem c_evaluate (G : Ps c K) (R : Rm A 1) {e : Addr} {cx : AV} {l : List Nat} (m : (e, .tup (cvL l)) ∈ σ) {Q : AV → Led → Prop} (h : ∀ r, Q (.ref r) ((r, .tup (tv l)) :: σ)) : Call c A (.ref 501) [.ref e, cx] σ Q := by
  refine call_cl (k := 11) (fun x => if x = Str.ofString "ctx" then some cx else none) G.toGd G.f_evaluate.2 ok_evaluate rfl R.room (fun n p hp => ?_) fun L env F hc => ?_
  · rw [cf_evaluate, List.mem_singleton] at hp
    subst hp
    exact .inl ⟨1, cx, rfl, rfl, if_pos rfl⟩
  · have R' := R.deeper (env := env)
    unfold cvL at m
    simp only [cf_evaluate, List.map_cons, List.map_nil, List.cons_append, List.nil_append, nm_evaluate, locV, noneV]
    refine x_cons ?_
    wtm_at "Mgo"
    refine tv_true (by decide) ?_
    wtm_at "Mgo"
    refine ⟨by simp, fun r => ⟨(r, .tup (tv l)) :: σ, ?_, h r⟩⟩
    unfold tv
    wtm_at "Msb"
theorem c_whole_of (G : Ps c K) (R : Rm A 3) {e : Addr} {cx : AV} {l : List Nat} {sg : Bool} (m : (e, .tup (cvL l)) ∈ σ) (hb : Bits l) (hl : l.length ≤ 60) (hl' : 1 ≤ l.length) {Q : AV → Led → Prop} (h : Q (ovI (whole l sg)) σ) : Call c A (.ref 461) [.ref e, .bool sg, cx] σ Q := by
  refine call_fn (k := 0) G.toGd G.f_whole_of.2 ok_whole_of rfl R.room fun L env F => ?_
  simp only [initV, noneV]
  have R' := R.deeper (env := env)
  refine x_cons ?_
  wtm_at "Mgo"
  refine c_evaluate G (R'.less (by decide)) (l := l) (by wtm_at "Mmem") fun r => ?_
  wtm_at "Mgo"
  refine c_to_int G R' (l := l) (by wtm_at "Mmem") hb hl hl' ?_
  exact ⟨σ, by wtm_at "Msb", h⟩
theorem c_words (G : Ps c K) (R : Rm A 2) {s : Addr} {k w : Nat} (S : Sig σ s k w true) {Q : AV → Led → Prop} (h : Q (.int 4) σ) : Call c A (.ref 571) [.ref s] σ Q := by
  refine call_fn (k := 0) G.toGd G.m_Signal_words ok_Signal_words rfl R.room fun L env F => ?_
  simp only [initV, noneV]
  have R' := R.deeper (env := env)
  obtain ⟨sd, pth, m1, m2⟩ := S
  refine x_cons ?_
  wtm_at "Mgo"
  refine tv_false (by decide) ?_
  wtm_at "Mgo"
  exact ⟨σ, by wtm_at "Msb", h⟩
theorem c_place (G : Ps c K) (R : Rm A 3) {s : Addr} {k w : Nat} {i : Int} (S : Sig σ s k w true) {Q : AV → Led → Prop} (h : Q (.int (if 1 ≤ i ∧ i ≤ 4 then i - 1 else -1)) σ) : Call c A (.ref 585) [.ref s, .int i] σ Q := by
  refine call_fn (k := 1) G.toGd G.m_Signal_place ok_Signal_place rfl R.room fun L env F => ?_
  simp only [initV, noneV]
  have R' := R.deeper (env := env)
  obtain ⟨sd, pth, m1, m2⟩ := S
  refine x_cons ?_
  wtm_at "Mgo"
  refine tv_false (by decide) ?_
  wtm_at "Mgo"
  refine tv_yes (by decide) ?_
  wtm_at "Mgo"
  refine tv_dec (fun q => ?_) (fun q => ?_)
  · wtm_at "Mgo"
    rw [if_neg (by omega)] at h
    exact ⟨σ, by wtm_at "Msb", h⟩
  · wtm_at "Mgo"
    refine c_words G (R'.less (by decide)) ⟨sd, pth, by wtm_at "Mmem", by wtm_at "Mmem"⟩ ?_
    wtm_at "Mgo"
    refine tv_dec (fun q2 => ?_) (fun q2 => ?_)
    · wtm_at "Mgo"
      rw [if_neg (by omega)] at h
      exact ⟨σ, by wtm_at "Msb", h⟩
    · wtm_at "Mgo"
      rw [if_pos (by omega)] at h
      exact ⟨σ, by wtm_at "Msb", h⟩
theorem c_net_kinds (G : Ps c K) (R : Rm A 1) {Q : AV → Led → Prop} (h : ∀ r, Q (.ref r) ((r, .tup (sl [Str.ofString "wire", Str.ofString "tri", Str.ofString "wand", Str.ofString "wor", Str.ofString "tri0", Str.ofString "tri1", Str.ofString "trireg", Str.ofString "supply0", Str.ofString "supply1"])) :: σ)) : Call c A (.ref 536) [] σ Q := by
  refine call_fn (k := 0) G.toGd G.f_net_kinds.2 ok_net_kinds rfl R.room fun L env F => ?_
  simp only [initV, noneV]
  refine x_cons ?_
  wtm_at "Mgo"
  refine ⟨by simp, fun r => ⟨_, ?_, h r⟩⟩
  unfold sl
  simp only [List.map_cons, List.map_nil]
  wtm_at "Msb"
theorem c_is_net (G : Ps c K) (R : Rm A 2) {s : Addr} {k w : Nat} {mem : Bool} (S : Sig σ s k w mem) {Q : AV → Led → Prop} (h : Q (.bool false) σ) : Call c A (.ref 557) [.ref s] σ Q := by
  refine call_fn (k := 0) G.toGd G.m_Signal_is_net ok_Signal_is_net rfl R.room fun L env F => ?_
  simp only [initV, noneV]
  have R' := R.deeper (env := env)
  obtain ⟨sd, pth, m1, m2⟩ := S
  refine x_cons ?_
  wtm_at "Mgo"
  refine c_net_kinds G R' fun r => ?_
  refine o_in_tup (by wtm_at "Mmem") ?_
  refine ⟨σ, by wtm_at "Msb", ?_⟩
  have : ([Str.ofString "wire", Str.ofString "tri", Str.ofString "wand", Str.ofString "wor", Str.ofString "tri0", Str.ofString "tri1", Str.ofString "trireg", Str.ofString "supply0", Str.ofString "supply1"].any (· == Str.ofString "reg")) = false := by decide +kernel
  rw [this]
  exact h
theorem vok_get {o : Option AV} {l : List Nat} (V : VOk σ o l) : (∃ p, o = some (.ref p) ∧ (p, MO.tup (tv l)) ∈ σ) ∨ (o = none ∧ tv l = tv (List.replicate l.length 3)) := by
  rcases V with h | ⟨h, e⟩
  · exact .inl h
  · exact .inr ⟨h, congrArg tv e⟩
theorem vok_ref {o : Option AV} {l : List Nat} {p : Addr} (e : o = some (.ref p)) : ∀ τ, VOk τ o l → (p, MO.tup (tv l)) ∈ [] ++ τ := fun τ V => by
  rcases V with ⟨q, e2, m⟩ | ⟨e2, _⟩
  · rw [e] at e2; cases e2; exact m
  · rw [e] at e2; cases e2
theorem c_get (G : Ps c K) (R : Rm A 4) {x sl va ma : Addr} {ws : List Nat} {vd : List (Int × AV)} {k : Nat} {l : List Nat} (W : Wd σ x sl va ma ws) (mv : (va, .dct vd) ∈ σ) (hk : k < 4) (V : VOk σ (dget vd k) l) (hl : l.length = ws.getD k 0) {Q : AV → Led → Prop}
    (h : ∀ r nw, (∀ τ, VOk τ (dget vd k) l → (r, MO.tup (tv l)) ∈ nw ++ τ) → Q (.ref r) (nw ++ σ)) : Call c A (.ref 676) [.ref x, .int (k : Int)] σ Q := by
  refine call_fn (k := 2) G.toGd G.m_Store_get ok_Store_get rfl R.room fun L env F => ?_
  simp only [initV, noneV]
  have R' := R.deeper (env := env)
  obtain ⟨st, w1, w2⟩ := W.sx
  obtain ⟨sigs, w3, w4, w5⟩ := W.sgs
  obtain ⟨s, e1, S⟩ := w5 k (by omega)
  obtain ⟨sd, pth, w6, w7⟩ := id S
  refine x_cons ?_
  wtm_at "Mgo"
  rcases vok_get V with ⟨p, ep, mp⟩ | ⟨ep, ex⟩
  · rw [ep]
    wtm_at "Mgo"
    refine tv_true rfl ?_
    wtm_at "Mgo"
    exact ⟨σ, by wtm_at "Msb", h p [] (vok_ref ep)⟩
  · rw [ep]
    wtm_at "Mgo"
    refine tv_false rfl ?_
    wtm_at "Mgo"
    refine u_list (by wtm_at "Mmem") (by omega) (by omega) (by rw [Int.toNat_natCast]; exact e1) ?_
    wtm_at "Mgo"
    refine c_is_net G (R'.less (by decide)) ⟨sd, pth, by wtm_at "Mmem", by wtm_at "Mmem"⟩ ?_
    refine tv_false rfl ?_
    wtm_at "Mgo"
    refine c_all_x G (R'.less (by decide)) (by have := W.lo k (by omega); omega) fun r => ?_
    refine ⟨(r, .tup (tv l)) :: σ, ?_, h r [(r, .tup (tv l))] (fun τ _ => .head _)⟩
    rw [ex, hl]
    wtm_at "Msb"
noncomputable def memD : Option (Addr × List (Int × AV)) → List (Int × AV)
  | none => []
  | some (wm, _) => [(4, .ref wm)]
noncomputable def memL : Option (Addr × List (Int × AV)) → Led
  | none => []
  | some (wm, d) => [(wm, .dct d)]
noncomputable def memG : Option (Addr × List (Int × AV)) → Int → Option AV
  | none, _ => none
  | some (_, d), j => dget d j
theorem c_word (G : Ps c K) (R : Rm A 4) {x sl va ma : Addr} {ws : List Nat} {mm0 : Option (Addr × List (Int × AV))} {j : Nat} {l : List Nat} (W : Wd σ x sl va ma ws) (mv : (ma, .dct (memD mm0)) ∈ σ) (mm : ∀ p ∈ memL mm0, p ∈ σ) (V : VOk σ (memG mm0 j) l) (hl : l.length = ws.getD 4 0) {Q : AV → Led → Prop}
    (h : ∀ r nw, (∀ τ, VOk τ (memG mm0 j) l → (r, MO.tup (tv l)) ∈ nw ++ τ) → Q (.ref r) (nw ++ σ)) : Call c A (.ref 683) [.ref x, .int 4, .int (j : Int)] σ Q := by
  refine call_fn (k := 2) G.toGd G.m_Store_word ok_Store_word rfl R.room fun L env F => ?_
  simp only [initV, noneV]
  have R' := R.deeper (env := env)
  obtain ⟨st, w1, w2⟩ := W.sx
  obtain ⟨sigs, w3, w4, w5⟩ := W.sgs
  obtain ⟨s, e1, S⟩ := w5 4 (by omega)
  obtain ⟨sd, pth, w6, w7⟩ := id S
  refine x_cons ?_
  wtm_at "Mgo"
  cases mm0 with
  | none =>
    refine tv_false rfl ?_
    wtm_at "Mgo"
    obtain ⟨p, z, _⟩ | ⟨_, ex⟩ := vok_get V
    · cases z
    refine u_list (by wtm_at "Mmem") (by omega) (by omega) e1 ?_
    wtm_at "Mgo"
    refine c_all_x G (R'.less (by decide)) (by have := W.lo 4 (by omega); omega) fun r => ?_
    refine ⟨(r, .tup (tv l)) :: σ, ?_, h r [(r, .tup (tv l))] (fun τ _ => .head _)⟩
    rw [ex, hl]
    wtm_at "Msb"
  | some q =>
    obtain ⟨wm, d⟩ := q
    have e0 : orNone (dget (memD (some (wm, d))) 4) = .ref wm := rfl
    rw [e0]
    refine tv_true rfl ?_
    have m3 : (wm, MO.dct d) ∈ σ := mm _ (.head _)
    wtm_at "Mgo"
    have V' : VOk σ (dget d j) l := V
    rcases vok_get V' with ⟨p, ep, mp⟩ | ⟨ep, ex⟩
    · rw [ep]
      refine tv_true rfl ?_
      wtm_at "Mgo"
      exact ⟨σ, by wtm_at "Msb", h p [] (vok_ref ep)⟩
    · rw [ep]
      refine tv_false rfl ?_
      wtm_at "Mgo"
      refine u_list (by wtm_at "Mmem") (by omega) (by omega) e1 ?_
      wtm_at "Mgo"
      refine c_all_x G (R'.less (by decide)) (by have := W.lo 4 (by omega); omega) fun r => ?_
      refine ⟨(r, .tup (tv l)) :: σ, ?_, h r [(r, .tup (tv l))] (fun τ _ => .head _)⟩
      rw [ex, hl]
      wtm_at "Msb"
theorem Up.tup {a : Addr} {o o' : MO} {σ σ' : Led} (U : Up a o o' σ σ') {p : Addr × MO} (h : p ∈ σ) (hne : p ≠ (a, o)) : p ∈ σ' := by
  obtain ⟨l, r, rfl, rfl⟩ := U.split
  rcases List.mem_append.mp h with h | h
  · exact List.mem_append_left _ h
  · rcases List.mem_cons.mp h with rfl | h
    · exact absurd rfl hne
    · exact List.mem_append_right _ (.tail _ h)
theorem dget_map (k j : Int) (v : AV) : ∀ d : List (Int × AV), dget (d.map fun x => if x.1 = k then (x.1, v) else x) j = if j = k then (dget d j).map fun _ => v else dget d j
  | [] => by simp [dget]
  | x :: d => by
    have ih := dget_map k j v d
    unfold dget at ih ⊢
    rw [List.map_cons, List.find?_cons, List.find?_cons]
    have e : (if x.1 = k then (x.1, v) else x).1 = x.1 := by split <;> rfl
    rw [e]
    by_cases h : x.1 = j
    · simp only [h, decide_true]
      by_cases q : j = k
      · simp [q]
      · simp [q]
    · simp only [h, decide_false]
      exact ih
theorem dget_put (d : List (Int × AV)) (k j : Int) (v : AV) : dget (dput d k v) j = if j = k then some v else dget d j := by
  unfold dput
  have hany : (d.any fun x => decide (x.1 = k)) = (dget d k).isSome := by
    unfold dget
    rw [Option.isSome_map]
    induction d with
    | nil => rfl
    | cons x d ih =>
      rw [List.any_cons, List.find?_cons, ih]
      cases decide (x.1 = k) <;> simp
  split
  · rename_i h
    rw [dget_map]
    rw [hany] at h
    split
    · rename_i q
      subst q
      obtain ⟨w, hw⟩ := Option.isSome_iff_exists.mp h
      rw [hw]; rfl
    · rfl
  · rename_i h
    rw [hany] at h
    unfold dget
    rw [List.find?_append]
    by_cases q : j = k
    · subst q
      rw [if_pos rfl]
      have : d.find? (fun x => decide (x.1 = j)) = none := by
        cases e : d.find? (fun x => decide (x.1 = j)) with
        | none => rfl
        | some y => exact absurd (by unfold dget; rw [e]; rfl) h
      rw [this]; simp
    · rw [if_neg q]
      cases e : d.find? (fun x => decide (x.1 = j)) with
      | none => simp [Ne.symm q]
      | some y => simp
theorem dput_len (d : List (Int × AV)) (k : Int) (v : AV) : (dput d k v).length ≤ d.length + 1 := by
  unfold dput
  split
  · rw [List.length_map]; omega
  · rw [List.length_append]; simp
theorem c_set_sig (G : Ps c K) (R : Rm A 6) {ρ : Led} {x sl va ma p : Addr} {ws : List Nat} {vd : List (Int × AV)} {k : Nat} {l pc : List Nat} {lo : Int} (W : Wd ρ x sl va ma ws) (hk : k < 4) (V : VOk ρ (dget vd k) l) (hl : l.length = ws.getD k 0) (hvl : vd.length ≤ 900) (hb : Bits l) (hb' : Bits pc)
    (mp : (p, .tup (tv pc)) ∈ ρ) (h1 : 0 < lo + pc.length) (h2 : lo < l.length) (hp : pc.length ≤ 60) (hp' : 1 ≤ pc.length) {Q : AV → Led → Prop}
    (h : ∀ nw vd', (∀ j : Int, j ≠ k → dget vd' j = dget vd j) → (∀ τ, VOk τ (dget vd k) l → VOk (nw ++ τ) (dget vd' k) (put l lo pc)) → vd'.length ≤ vd.length + 1 → Q (.bool (decide (put l lo pc ≠ l))) (nw ++ (va, .dct vd') :: ρ)) : Call c A (.ref 690) [.ref x, .int (k : Int), .none, .int lo, .ref p] ((va, .dct vd) :: ρ) Q := by
  refine call_fn (k := 2) G.toGd G.m_Store_set_bits ok_Store_set_bits rfl R.room fun L env F => ?_
  simp only [initV, noneV]
  have R' := R.deeper (env := env)
  have hlw := W.lo k (by omega)
  obtain ⟨st, w1, w2⟩ := W.sx
  refine x_cons ?_
  wtm_at "Mgo"
  refine tv_true rfl ?_
  wtm_at "Mgo"
  refine c_get G (R'.less (by decide)) (l := l) (W.mono fun p hp => .tail _ (.tail _ hp)) (by wtm_at "Mmem") hk (V.mono fun p hp => .tail _ (.tail _ hp)) hl fun r nw mr => ?_
  wtm_at "Mgo"
  have mr0 : (r, MO.tup (tv l)) ∈ nw ∨ (r, MO.tup (tv l)) ∈ ρ := List.mem_append.mp (mr ρ V)
  have mr2 : ∀ e1 e2, (r, MO.tup (tv l)) ∈ nw ++ e1 :: e2 :: ρ := fun e1 e2 => by rcases mr0 with h | h <;> simp [h]
  clear mr
  refine c_put_slice G (R'.less (by decide)) (l := l) (pc := pc) (mr2 _ _) (by wtm_at "Mmem") h1 h2 (by omega) (by omega) hp hp' fun r2 => ?_
  wtm_at "Mgo"
  refine o_eqt (ns := made (put l lo pc)) (ms := made l) (by have := R'.un; show _ < 9900; omega) (.head _) (.tail _ (mr2 _ _)) ?_
  refine tv_dec (fun q => ?_) (fun q => ?_)
  · have q' := made_inj (put_bits hb hb') hb q
    wtm_at "Mgo"
    have := h [] vd (fun _ _ => rfl) (fun τ V => by rw [q']; exact V) (by omega)
    rw [decide_eq_false (fun z => z q')] at this
    exact ⟨(va, .dct vd) :: ρ, by wtm_at "Msb", this⟩
  · have q' : put l lo pc ≠ l := fun e => q (by rw [e])
    wtm_at "Mgo"
    refine si_dct (by wtm_at "Mup") (by omega) ?_
    wtm_at "Mgo"
    have := h [(r2, .tup (tv (put l lo pc)))] (dput vd k (.ref r2)) (fun j hj => by rw [dget_put, if_neg hj]) (fun τ _ => by rw [dget_put, if_pos rfl]; exact .inl ⟨r2, rfl, .head _⟩) (dput_len ..)
    rw [decide_eq_true q'] at this
    exact ⟨(r2, .tup (tv (put l lo pc))) :: (va, .dct (dput vd k (.ref r2))) :: ρ, by wtm_at "Msb", this⟩
theorem c_set_word (G : Ps c K) (R : Rm A 6) {ρ : Led} {x sl va ma p : Addr} {ws : List Nat} {mm0 : Option (Addr × List (Int × AV))} {j : Nat} {l pc : List Nat} {lo : Int} (W : Wd ρ x sl va ma ws) (hj : j < 4) (V : VOk ρ (memG mm0 j) l) (hl : l.length = ws.getD 4 0) (hvl : ∀ wm d, mm0 = some (wm, d) → d.length ≤ 900) (hb : Bits l) (hb' : Bits pc)
    (mp : (p, .tup (tv pc)) ∈ ρ) (h1 : 0 < lo + pc.length) (h2 : lo < l.length) (hp : pc.length ≤ 60) (hp' : 1 ≤ pc.length) {Q : AV → Led → Prop}
    (h : ∀ nw mm1, (∀ i : Int, i ≠ j → memG mm1 i = memG mm0 i) → (∀ τ, VOk τ (memG mm0 j) l → VOk (nw ++ τ) (memG mm1 j) (put l lo pc)) → (∀ n, (∀ wm d, mm0 = some (wm, d) → d.length ≤ n) → ∀ wm d, mm1 = some (wm, d) → d.length ≤ n + 1) → Q (.bool (decide (put l lo pc ≠ l))) (nw ++ ((ma, .dct (memD mm1)) :: (memL mm1 ++ ρ)))) :
    Call c A (.ref 690) [.ref x, .int 4, .int (j : Int), .int lo, .ref p] ((ma, .dct (memD mm0)) :: (memL mm0 ++ ρ)) Q := by
  refine call_fn (k := 2) G.toGd G.m_Store_set_bits ok_Store_set_bits rfl R.room fun L env F => ?_
  simp only [initV, noneV]
  have R' := R.deeper (env := env)
  have hlw := W.lo 4 (by omega)
  obtain ⟨st, w1, w2⟩ := W.sx
  obtain ⟨sigs, w3, w4, w5⟩ := W.sgs
  obtain ⟨s, e1, S⟩ := w5 4 (by omega)
  have S' : Sig ρ s 4 (ws.getD 4 0) true := S
  obtain ⟨sd, pth, w6, w7⟩ := id S'
  have up : ∀ (e1 e2 : Addr × MO), ∀ p ∈ ρ, p ∈ e1 :: e2 :: (memL mm0 ++ ρ) := fun e1 e2 p hp => .tail _ (.tail _ (List.mem_append_right _ hp))
  refine x_cons ?_
  wtm_at "Mgo"
  refine tv_false rfl ?_
  wtm_at "Mgo"
  refine tv_no (by omega) ?_
  wtm_at "Mgo"
  refine u_list (by wtm_at "Mmem") (by omega) (by omega) e1 ?_
  wtm_at "Mgo"
  refine c_words G (R'.less (by decide)) (k := 4) (w := ws.getD 4 0) (S'.mono (up _ _)) ?_
  wtm_at "Mgo"
  refine tv_no (by omega) ?_
  wtm_at "Mgo"
  refine c_word G (R'.less (by decide)) (mm0 := mm0) (l := l) (W.mono (up _ _)) (by wtm_at "Mmem") (fun p hp => .tail _ (.tail _ (List.mem_append_left _ hp))) (V.mono (up _ _)) hl fun r nw mr => ?_
  wtm_at "Mgo"
  have mr0 : (r, MO.tup (tv l)) ∈ nw ∨ (r, MO.tup (tv l)) ∈ ρ := List.mem_append.mp (mr ρ V)
  have mr2 : ∀ e1 e2, (r, MO.tup (tv l)) ∈ nw ++ e1 :: e2 :: (memL mm0 ++ ρ) := fun e1 e2 => by rcases mr0 with h | h <;> simp [h]
  clear mr
  refine c_put_slice G (R'.less (by decide)) (l := l) (pc := pc) (mr2 _ _) (by wtm_at "Mmem") h1 h2 (by omega) (by omega) hp hp' fun r2 => ?_
  wtm_at "Mgo"
  refine o_eqt (ns := made (put l lo pc)) (ms := made l) (by have := R'.un; show _ < 9900; omega) (.head _) (.tail _ (mr2 _ _)) ?_
  refine tv_dec (fun q => ?_) (fun q => ?_)
  · have q' := made_inj (put_bits hb hb') hb q
    wtm_at "Mgo"
    have := h [] mm0 (fun _ _ => rfl) (fun τ V => by rw [q']; exact V) (fun n hn wm d e => by have := hn wm d e; omega)
    rw [decide_eq_false (fun z => z q')] at this
    exact ⟨(ma, .dct (memD mm0)) :: (memL mm0 ++ ρ), by wtm_at "Msb", this⟩
  · have q' : put l lo pc ≠ l := fun e => q (by rw [e])
    cases mm0 with
    | none =>
      wtm_at "Mgo"
      refine tv_true rfl ?_
      wtm_at "Mgo"
      intro wm
      wtm_at "Mgo"
      refine si_dct (by wtm_at "Mup") (by decide) ?_
      wtm_at "Mgo"
      refine u_dct (by wtm_at "Mmem") (v := .ref wm) rfl ?_
      wtm_at "Mgo"
      refine si_dct (by wtm_at "Mup") (by decide) ?_
      wtm_at "Mgo"
      have := h [(r2, .tup (tv (put l lo pc)))] (some (wm, dput [] j (.ref r2))) (fun i hi => by show dget (dput [] j (.ref r2)) i = none; rw [dget_put, if_neg hi]; rfl) (fun τ _ => by show VOk _ (dget (dput [] j (.ref r2)) j) _; rw [dget_put, if_pos rfl]; exact .inl ⟨r2, rfl, .head _⟩) (fun n hn wm' d' e => by cases e; exact Nat.le_add_left ..)
      rw [decide_eq_true q'] at this
      exact ⟨(r2, .tup (tv (put l lo pc))) :: (ma, .dct [(4, .ref wm)]) :: (wm, .dct (dput [] j (.ref r2))) :: ρ, by wtm_at "Msb", this⟩
    | some z =>
      obtain ⟨wm, d⟩ := z
      have hd := hvl wm d rfl
      simp only [memL, memD, List.cons_append, List.nil_append]
      wtm_at "Mgo"
      refine tv_false rfl ?_
      wtm_at "Mgo"
      refine u_dct (by wtm_at "Mmem") (v := .ref wm) rfl ?_
      wtm_at "Mgo"
      refine si_dct (by wtm_at "Mup") (by omega) ?_
      wtm_at "Mgo"
      have := h [(r2, .tup (tv (put l lo pc)))] (some (wm, dput d j (.ref r2))) (fun i hi => by show dget (dput d j (.ref r2)) i = _; rw [dget_put, if_neg hi]; rfl) (fun τ _ => by show VOk _ (dget (dput d j (.ref r2)) j) _; rw [dget_put, if_pos rfl]; exact .inl ⟨r2, rfl, .head _⟩) (fun n hn wm' d' e => by cases e; exact Nat.le_trans (dput_len ..) (Nat.succ_le_succ (hn _ _ rfl)))
      rw [decide_eq_true q'] at this
      exact ⟨(r2, .tup (tv (put l lo pc))) :: (ma, .dct [(4, .ref wm)]) :: (wm, .dct (dput d j (.ref r2))) :: ρ, by wtm_at "Msb", this⟩
end
section
set_option maxRecDepth 20000
variable {c : Cx} {A : Around} {σ : Led} {K : Frag}
inductive Wh where
  | at (lo : Int)
  | pick (b : List Nat) (sg : Bool) (base step : Int)
structure Pt where
  loc : Bool
  ref : Nat
  w : Nat
  word : Option (List Nat × Bool)
  wh : Wh
structure Am (b : List Nat) : Prop where
  bits : Bits b
  lo : 1 ≤ b.length
  hi : b.length ≤ 5
noncomputable def Wh.Ok : Wh → Prop
  | .at lo => -10 ≤ lo ∧ lo ≤ 10
  | .pick b _ base step => Am b ∧ -10 ≤ base ∧ base ≤ 10
structure Pt.Ok (p : Pt) : Prop where
  ref : p.ref < if p.loc then 2 else 5
  w1 : 1 ≤ p.w
  w2 : p.w ≤ 6
  word : p.word.isSome = (!p.loc && p.ref == 4)
  am : ∀ b sg, p.word = some (b, sg) → Am b
  wh : p.wh.Ok
noncomputable def lowOf : Wh → Option Int
  | .at lo => some lo
  | .pick b sg base step => (whole b sg).map fun i => (i - base) * step
noncomputable def kindS (loc : Bool) : Str := if loc then Str.ofString "local" else Str.ofString "sig"
noncomputable def WhAt (σ : Led) (q : Addr) : Wh → Prop
  | .at lo => (q, MO.tup [.str (Str.ofString "at"), .int lo]) ∈ σ
  | .pick b sg base step => ∃ ca, (q, MO.tup [.str (Str.ofString "pick"), .ref ca, .bool sg, .int base, .int step]) ∈ σ ∧ (ca, MO.tup (cvL b)) ∈ σ
theorem WhAt.mono {σ σ' : Led} {q : Addr} : ∀ {wh : Wh}, WhAt σ q wh → (∀ p ∈ σ, p ∈ σ') → WhAt σ' q wh
  | .at lo, h, hs => hs _ h
  | .pick .., ⟨ca, h1, h2⟩, hs => ⟨ca, hs _ h1, hs _ h2⟩
theorem whole_bd {b : List Nat} {sg : Bool} {i : Int} (h : whole b sg = some i) (hl : b.length ≤ 5) : -32 ≤ i ∧ i < 32 := by
  have := enc_lt lo1 b
  have h2 : 2 ^ b.length ≤ 2 ^ 5 := Nat.pow_le_pow_right (by decide) hl
  have h3 : (2 : Int) ^ b.length = ((2 ^ b.length : Nat) : Int) := by push_cast; rfl
  unfold whole at h
  split at h
  · cases h
  · split at h <;> (simp only [Option.some.injEq] at h; omega)
theorem c_locate (G : Ps c K) (R : Rm A 4) {q : Addr} {cx : AV} {wh : Wh} (m : WhAt σ q wh) (ok : wh.Ok) {Q : AV → Led → Prop} (h : Q (ovI (lowOf wh)) σ) : Call c A (.ref 508) [.ref q, cx] σ Q := by
  refine call_fn (k := 1) G.toGd G.f_locate.2 ok_locate rfl R.room fun L env F => ?_
  simp only [initV, noneV]
  have R' := R.deeper (env := env)
  cases wh with
  | «at» lo =>
    have m1 : (q, MO.tup [.str (Str.ofString "at"), .int lo]) ∈ σ := m
    refine x_cons ?_
    wtm_at "Mgo"
    refine tv_true (by decide) ?_
    wtm_at "Mgo"
    exact ⟨σ, by wtm_at "Msb", h⟩
  | pick b sg base step =>
    obtain ⟨ca, m1, m2⟩ := m
    obtain ⟨am, b1, b2⟩ := ok
    refine x_cons ?_
    wtm_at "Mgo"
    refine tv_false (by decide) ?_
    wtm_at "Mgo"
    refine c_whole_of G R' (l := b) (by wtm_at "Mmem") am.bits (by have := am.hi; omega) am.lo ?_
    wtm_at "Mgo"
    cases e : whole b sg with
    | none =>
      refine tv_true rfl ?_
      wtm_at "Mgo"
      have h' : Q .none σ := by simpa [lowOf, e, ovI] using h
      exact ⟨σ, by wtm_at "Msb", h'⟩
    | some i =>
      have bd := whole_bd e am.hi
      refine tv_false rfl ?_
      simp only [ovI]
      wtm_at "Mgo"
      refine o_mul ?_ (by omega)
      have h' : Q (.int ((i - base) * step)) σ := by simpa [lowOf, e, ovI] using h
      exact ⟨σ, by wtm_at "Msb", h'⟩
structure Cw (σ : Led) (cx x fr : Addr) : Prop where
  ob : ∃ cd, (cx, MO.ins 736 cd) ∈ σ ∧ (cd, MO.fld (ctF x fr)) ∈ σ
theorem Cw.mono {σ σ' : Led} {cx x fr : Addr} (h : Cw σ cx x fr) (hs : ∀ p ∈ σ, p ∈ σ') : Cw σ' cx x fr := ⟨let ⟨cd, a, b⟩ := h.ob; ⟨cd, hs _ a, hs _ b⟩⟩
noncomputable def Vecs (σ : Led) (fv : List AV) (ls : List (List Nat)) : Prop := fv.length = ls.length ∧ ∀ (i : Nat) (l : List Nat), ls[i]? = some l → ∃ t, fv[i]? = some (AV.ref t) ∧ (t, MO.tup (tv l)) ∈ σ
theorem Vecs.mono {σ σ' : Led} {fv : List AV} {ls : List (List Nat)} (h : Vecs σ fv ls) (hs : ∀ p ∈ σ, p ∈ σ') : Vecs σ' fv ls := ⟨h.1, fun i l e => let ⟨t, a, b⟩ := h.2 i l e; ⟨t, a, hs _ b⟩⟩
noncomputable def wid (ws : List Nat) (loc : Bool) (ref : Nat) : Nat := ws.getD (if loc then 5 + ref else ref) 0
theorem c_holder_width (G : Ps c K) (R : Rm A 2) {x sl va ma cx fr q : Addr} {ws : List Nat} {fv : List AV} {ls : List (List Nat)} {loc : Bool} {ref : Nat} {v1 v3 v4 : AV} (W : Wd σ x sl va ma ws) (C : Cw σ cx x fr) (mf : (fr, .lst fv) ∈ σ) (V : Vecs σ fv ls) (hls : ls.length = 2) (hlw : ∀ i l, ls[i]? = some l → l.length = ws.getD (5 + i) 0)
    (m : (q, .tup [.str (kindS loc), v1, .int (ref : Int), v3, v4]) ∈ σ) (hr : ref < if loc then 2 else 5) {Q : AV → Led → Prop} (h : Q (.int (wid ws loc ref : Int)) σ) : Call c A (.ref 515) [.ref q, .ref cx] σ Q := by
  refine call_fn (k := 0) G.toGd G.f_holder_width.2 ok_holder_width rfl R.room fun L env F => ?_
  simp only [initV, noneV]
  have R' := R.deeper (env := env)
  obtain ⟨cd, c1, c2⟩ := C.ob
  obtain ⟨st, w1, w2⟩ := W.sx
  obtain ⟨sigs, w3, w4, w5⟩ := W.sgs
  cases loc with
  | false =>
    have hr' : ref < 5 := hr
    obtain ⟨s, e1, S⟩ := w5 ref hr'
    obtain ⟨sd, pth, w6, w7⟩ := S
    refine x_cons ?_
    wtm_at "Mgo"
    refine tv_true (by decide) ?_
    wtm_at "Mgo"
    refine u_list (by wtm_at "Mmem") (by omega) (by omega) (by rw [Int.toNat_natCast]; exact e1) ?_
    wtm_at "Mgo"
    exact ⟨σ, by wtm_at "Msb", h⟩
  | true =>
    have hr' : ref < 2 := hr
    obtain ⟨l, hl⟩ : ∃ l, ls[ref]? = some l := ⟨_, List.getElem?_eq_getElem (by omega)⟩
    obtain ⟨t, e1, mt⟩ := V.2 ref l hl
    have hw := hlw ref l hl
    refine x_cons ?_
    wtm_at "Mgo"
    refine tv_false (by decide) ?_
    wtm_at "Mgo"
    refine u_list (by wtm_at "Mmem") (by omega) (by omega) (by rw [Int.toNat_natCast]; exact e1) ?_
    wtm_at "Mgo"
    refine ⟨σ, by wtm_at "Msb", ?_⟩
    rw [hw]
    exact h
end
section
set_option maxRecDepth 20000
structure Rw where
  loc : Bool
  ref : Nat
  pl : Option Nat
  lo : Int
  w : Nat
  take : Nat
noncomputable def eff (p : Pt) : Option (Option Nat × Int) := match p.word with
  | none => (lowOf p.wh).map fun lo => (none, lo)
  | some (b, sg) => match whole b sg with
    | none => none
    | some i => if 1 ≤ i ∧ i ≤ 4 then (lowOf p.wh).map fun lo => (some (i - 1).toNat, lo) else none
noncomputable def rowOf (ws : List Nat) (p : Pt) (t : Nat) : List Rw := match eff p with
  | some (pl, lo) => if 0 < lo + p.w ∧ lo < wid ws p.loc p.ref then [⟨p.loc, p.ref, pl, lo, p.w, t⟩] else []
  | none => []
noncomputable def rowsOf (ws : List Nat) : List Pt → Nat → List Rw
  | [], _ => []
  | p :: r, t => rowOf ws p (t - p.w) ++ rowsOf ws r (t - p.w)
noncomputable def sumW (ps : List Pt) : Nat := (ps.map (·.w)).sum
noncomputable def plV : Option Nat → AV
  | none => .none
  | some j => .int (j : Int)
noncomputable def All2 {α : Type} (R : AV → α → Prop) : List AV → List α → Prop
  | [], [] => True
  | v :: vs, a :: as => R v a ∧ All2 R vs as
  | _, _ => False
theorem All2.len {α : Type} {R : AV → α → Prop} : ∀ {vs : List AV} {as : List α}, All2 R vs as → vs.length = as.length
  | [], [], _ => rfl
  | _ :: _, _ :: _, h => by simp [All2.len h.2]
theorem All2.get {α : Type} {R : AV → α → Prop} : ∀ {vs : List AV} {as : List α} {i : Nat} {v : AV}, All2 R vs as → vs[i]? = some v → ∃ a, as[i]? = some a ∧ R v a
  | v :: vs, a :: as, 0, _, h, e => by cases e; exact ⟨a, rfl, h.1⟩
  | v :: vs, a :: as, i + 1, _, h, e => All2.get (i := i) h.2 (by simpa using e)
theorem All2.app {α : Type} {R : AV → α → Prop} : ∀ {vs vs' : List AV} {as as' : List α}, All2 R vs as → All2 R vs' as' → All2 R (vs ++ vs') (as ++ as')
  | [], _, [], _, _, h => h
  | _ :: _, _, _ :: _, _, h, k => ⟨h.1, All2.app h.2 k⟩
theorem All2.mono {α : Type} {R R' : AV → α → Prop} (k : ∀ v a, R v a → R' v a) : ∀ {vs : List AV} {as : List α}, All2 R vs as → All2 R' vs as
  | [], [], _ => trivial
  | _ :: _, _ :: _, h => ⟨k _ _ h.1, All2.mono k h.2⟩
theorem All2.one {α : Type} {R : AV → α → Prop} {v : AV} {a : α} (h : R v a) : All2 R [v] [a] := ⟨h, trivial⟩
noncomputable def WordAt (σ : Led) (wv : AV) : Option (List Nat × Bool) → Prop
  | none => wv = .none
  | some (b, sg) => ∃ wq ca, wv = .ref wq ∧ (wq, MO.tup [.ref ca, .bool sg]) ∈ σ ∧ (ca, MO.tup (cvL b)) ∈ σ
noncomputable def SrcAt (σ : Led) (v : AV) (p : Pt) : Prop := ∃ pp q wv, v = .ref pp ∧ (pp, MO.tup [.str (kindS p.loc), .int (p.w : Int), .int (p.ref : Int), wv, .ref q]) ∈ σ ∧ WhAt σ q p.wh ∧ WordAt σ wv p.word
noncomputable def RowAt (σ : Led) (v : AV) (r : Rw) : Prop := ∃ rp, v = .ref rp ∧ (rp, MO.tup [.str (kindS r.loc), .int (r.ref : Int), plV r.pl, .int r.lo, .int (r.w : Int), .int (r.take : Int)]) ∈ σ
theorem WordAt.mono {σ σ' : Led} {wv : AV} (hs : ∀ p ∈ σ, p ∈ σ') : ∀ {w : Option (List Nat × Bool)}, WordAt σ wv w → WordAt σ' wv w
  | none, h => h
  | some (b, sg), ⟨wq, ca, h1, h2, h3⟩ => ⟨wq, ca, h1, hs _ h2, hs _ h3⟩
theorem SrcAt.mono {σ σ' : Led} (hs : ∀ p ∈ σ, p ∈ σ') {v : AV} {p : Pt} (h : SrcAt σ v p) : SrcAt σ' v p := by
  obtain ⟨pp, q, wv, a, b, c, d⟩ := h
  exact ⟨pp, q, wv, a, hs _ b, c.mono hs, d.mono hs⟩
theorem RowAt.mono {σ σ' : Led} (hs : ∀ p ∈ σ, p ∈ σ') {v : AV} {p : Rw} (h : RowAt σ v p) : RowAt σ' v p := by
  obtain ⟨rp, a, b⟩ := h
  exact ⟨rp, a, hs _ b⟩
theorem X.cut {c : Cx} {A : Around} {t : Sem Flow} {σ : Led} {M N B C : Led → Prop} {R : AV → Led → Prop} (h : X c A t σ M B C R) (k : ∀ σ1, M σ1 → N σ1) : X c A t σ N B C R :=
  W.mono h fun f σ' hq => by cases f <;> first | exact k _ hq | exact hq
theorem tvx_cut {c : Cx} {A : Around} {t1 t2 : Sem Flow} {a : AV} {σ : Led} {M N B C : Led → Prop} {R : AV → Led → Prop} (h : Tv c A a σ (fun σ1 => X c A t1 σ1 M B C R) (fun σ1 => X c A t2 σ1 M B C R)) (k : ∀ σ1, M σ1 → N σ1) : Tv c A a σ (fun σ1 => X c A t1 σ1 N B C R) (fun σ1 => X c A t2 σ1 N B C R) :=
  fun v hv => W.mono (h v hv) fun b σ' hq => ⟨fun e => (hq.1 e).cut k, fun e => (hq.2 e).cut k⟩
theorem drop_at {α : Type} {l : List α} {i : Nat} {a : α} (h : l[i]? = some a) : l.drop i = a :: l.drop (i + 1) := by
  obtain ⟨h1, h2⟩ := List.getElem?_eq_some_iff.mp h
  rw [List.drop_eq_getElem_cons h1, h2]
end
section
set_option maxRecDepth 20000
variable {c : Cx} {A : Around} {σ : Led} {K : Frag}
theorem c_resolve_target (G : Ps c K) (R : Rm A 6) {x sl va ma cx fr lv pt : Addr} {ws : List Nat} {fv svs : List AV} {ls : List (List Nat)} {ps : List Pt} {tot : Nat} (W : Wd σ x sl va ma ws) (C : Cw σ cx x fr) (mf : (fr, .lst fv) ∈ σ) (V : Vecs σ fv ls) (hls : ls.length = 2) (hlw : ∀ i l, ls[i]? = some l → l.length = ws.getD (5 + i) 0)
    (m0 : (lv, .tup [.str (Str.ofString "lv"), .int (tot : Int), .ref pt]) ∈ σ) (m1 : (pt, .tup svs) ∈ σ) (hsv : All2 (SrcAt σ) svs ps) (hok : ∀ p ∈ ps, p.Ok) (htot : sumW ps ≤ tot) (hps : ps.length ≤ 1000) {Q : AV → Led → Prop}
    (h : ∀ rl rvs nw, All2 (RowAt nw) rvs (rowsOf ws ps tot) → Q (.ref rl) ((rl, .lst rvs) :: (nw ++ σ))) : Call c A (.ref 522) [.ref lv, .ref cx] σ Q := by
  refine call_fn (k := 11) G.toGd G.f_resolve_target.2 ok_resolve_target rfl R.room fun L env F0 => ?_
  simp only [initV, noneV]
  have R' := R.deeper (env := env)
  refine x_cons ?_
  wtm_at "Mgo"
  refine ⟨by decide, fun rl => ?_⟩
  wtm_at "Mgo"
  refine fo_tup (P := Int × List AV × Led × List (Option AV)) (l := svs) (fun p ρ => (L, .ns nm_resolve_target (some (.ref lv) :: some (.ref cx) :: some (.ref rl) :: some (.int p.1) :: p.2.2.2)) :: (rl, .lst p.2.1) :: (p.2.2.1 ++ ρ))
    (fun i p => (∃ j1 j2 j3 j4 j5 j6 j7 j8 j9, p.2.2.2 = [j1, j2, j3, j4, j5, j6, j7, j8, j9]) ∧ ∃ done t, rowsOf ws ps tot = done ++ rowsOf ws (ps.drop i) t ∧ All2 (RowAt p.2.2.1) p.2.1 done ∧ p.1 = (t : Int) ∧ sumW (ps.drop i) ≤ t ∧ done.length ≤ i)
    σ ((tot : Int), [], [], [none, none, none, none, none, none, none, none, none]) R'.hd (fun p ρ => by simp) (by wtm_at "Msb") (fun p => by wtm_at "Mmem") ⟨⟨_, _, _, _, _, _, _, _, _, rfl⟩, [], tot, by simp, trivial, rfl, by simpa using htot, Nat.le_refl _⟩ ?_ ?_
  · intro i v p ρ' hv hinv hρ hsb_
    obtain ⟨t0, rvs, nw, js⟩ := p
    obtain ⟨⟨j1, j2, j3, j4, j5, j6, j7, j8, j9, e⟩, done, t, hd, hrv, e2, hsw, hdl⟩ := hinv
    dsimp only at e e2 hrv ⊢
    subst e e2
    obtain ⟨p, hp, S⟩ := hsv.get hv
    have pok := hok p (List.mem_of_getElem? hp)
    rw [drop_at hp] at hd hsw
    have hw : p.w + sumW (ps.drop (i + 1)) ≤ t := by simpa [sumW] using hsw
    obtain ⟨pp, q, wv, ev, s1, s2, s3⟩ := S.mono hρ
    subst ev
    have W' := W.mono hρ
    have C' := C.mono hρ
    have V' := V.mono hρ
    have mf' := hρ _ mf
    have ip : i < ps.length := (List.getElem?_eq_some_iff.mp hp).1
    wtm_at "Mgo"
    have dn : rowOf ws p (t - p.w) = [] → rowsOf ws ps tot = done ++ rowsOf ws (ps.drop (i + 1)) (t - p.w) := fun hr => by rw [hd, rowsOf, hr, List.nil_append]
    refine tvx_cut (M := fun σ1 => ∃ j8 pl, eff p = (lowOf p.wh).map (fun lo => (pl, lo)) ∧ σ1 = (L, .ns nm_resolve_target
          [some (AV.ref lv), some (AV.ref cx), some (AV.ref rl), some (AV.int (↑t - ↑p.w)), some (AV.ref pp),
            some (AV.str (kindS p.loc)), some (AV.int ↑p.w), some (AV.int ↑p.ref), some wv, some (AV.ref q), some (plV pl), j8, j9]) :: (rl, MO.lst rvs) :: (nw ++ ρ')) ?_ ?_
    · cases hwd : p.word with
      | none =>
        rw [hwd] at s3
        have e3 : wv = .none := s3
        subst e3
        refine tv_false rfl ?_
        wtm_at "Mgo"
        exact ⟨j8, none, by unfold eff; rw [hwd], rfl⟩
      | some q =>
        obtain ⟨b, sg⟩ := q
        rw [hwd] at s3
        obtain ⟨wq, ca, e3, s4, s5⟩ := s3
        subst e3
        have am := pok.am b sg hwd
        have hr4 : p.loc = false ∧ p.ref = 4 := by
          have := pok.word
          rw [hwd] at this
          simpa using this.symm
        refine tv_true rfl ?_
        wtm_at "Mgo"
        refine c_whole_of G (R'.less (by decide)) (l := b) (by wtm_at "Mmem") am.bits (by have := am.hi; omega) am.lo ?_
        wtm_at "Mgo"
        cases hwh : whole b sg with
        | none =>
          refine tv_true rfl ?_
          wtm_at "Mgo"
          have hr : rowOf ws p (t - p.w) = [] := by unfold rowOf eff; rw [hwd]; simp only [hwh]
          exact ⟨((t : Int) - p.w, rvs, nw, _), ⟨⟨_, _, _, _, _, _, _, _, _, rfl⟩, done, t - p.w, dn hr, hrv, by omega, by omega, by omega⟩, Sb.same⟩
        | some ix =>
          refine tv_false rfl ?_
          simp only [ovI]
          obtain ⟨cd, c1, c2⟩ := C'.ob
          obtain ⟨st, w1, w2⟩ := W'.sx
          obtain ⟨sigs, w3, w4, w5⟩ := W'.sgs
          obtain ⟨s, e1, S4⟩ := w5 4 (by omega)
          have S5 : Sig ρ' s 4 (ws.getD 4 0) true := S4
          obtain ⟨sd, pth, w6, w7⟩ := id S5
          wtm_at "Mgo"
          refine u_list (by wtm_at "Mmem") (by omega) (by omega) (by rw [Int.toNat_natCast, hr4.2]; exact e1) ?_
          wtm_at "Mgo"
          refine c_place G (R'.less (by decide)) (k := 4) (w := ws.getD 4 0) ⟨sd, pth, by wtm_at "Mmem", by wtm_at "Mmem"⟩ ?_
          wtm_at "Mgo"
          refine tv_dec (fun q => ?_) (fun q => ?_)
          · have hir : ¬ (1 ≤ ix ∧ ix ≤ 4) := fun z => by rw [if_pos z] at q; omega
            wtm_at "Mgo"
            have hr : rowOf ws p (t - p.w) = [] := by unfold rowOf eff; rw [hwd]; simp only [hwh, if_neg hir]
            exact ⟨((t : Int) - p.w, rvs, nw, _), ⟨⟨_, _, _, _, _, _, _, _, _, rfl⟩, done, t - p.w, dn hr, hrv, by omega, by omega, by omega⟩, Sb.same⟩
          · have hir : 1 ≤ ix ∧ ix ≤ 4 := Decidable.byContradiction fun z => q (by rw [if_neg z]; omega)
            wtm_at "Mgo"
            refine ⟨some (.int ix), some (ix - 1).toNat, by unfold eff; rw [hwd]; simp only [hwh, if_pos hir], ?_⟩
            rw [if_pos hir]
            have : plV (some (ix - 1).toNat) = .int (ix - 1) := by show AV.int _ = _; rw [Int.toNat_of_nonneg (by omega)]
            rw [this]
    · rintro σ1 ⟨j8', pl, heff, rfl⟩
      wtm_at "Mgo"
      refine c_locate G (R'.less (by decide)) (wh := p.wh) (s2.mono fun z hz => .tail _ (.tail _ (List.mem_append_right _ hz))) pok.wh ?_
      wtm_at "Mgo"
      cases elo : lowOf p.wh with
      | none =>
        have hr : rowOf ws p (t - p.w) = [] := by unfold rowOf; rw [heff, elo]; rfl
        refine tv_true rfl ?_
        wtm_at "Mgo"
        exact ⟨((t : Int) - p.w, rvs, nw, _), ⟨⟨_, _, _, _, _, _, _, _, _, rfl⟩, done, t - p.w, dn hr, hrv, by omega, by omega, by omega⟩, Sb.same⟩
      | some lo =>
        have hro : rowOf ws p (t - p.w) = if 0 < lo + p.w ∧ lo < wid ws p.loc p.ref then [⟨p.loc, p.ref, pl, lo, p.w, t - p.w⟩] else [] := by unfold rowOf; rw [heff, elo]; rfl
        refine tv_false rfl ?_
        simp only [ovI]
        wtm_at "Mgo"
        refine tv_dec (fun q => ?_) (fun q => ?_)
        · wtm_at "Mgo"
          have hr : rowOf ws p (t - p.w) = [] := by rw [hro, if_neg (by omega)]
          exact ⟨((t : Int) - p.w, rvs, nw, _), ⟨⟨_, _, _, _, _, _, _, _, _, rfl⟩, done, t - p.w, dn hr, hrv, by omega, by omega, by omega⟩, Sb.same⟩
        · wtm_at "Mgo"
          have up : ∀ (e1 e2 : Addr × MO), ∀ z ∈ ρ', z ∈ e1 :: e2 :: (nw ++ ρ') := fun e1 e2 z hz => .tail _ (.tail _ (List.mem_append_right _ hz))
          refine c_holder_width G (R'.less (by decide)) (W'.mono (up _ _)) (C'.mono (up _ _)) (by wtm_at "Mmem") (V'.mono (up _ _)) hls hlw (by wtm_at "Mmem") pok.ref ?_
          wtm_at "Mgo"
          refine tv_dec (fun q2 => ?_) (fun q2 => ?_)
          · wtm_at "Mgo"
            have hr : rowOf ws p (t - p.w) = [] := by rw [hro, if_neg (by omega)]
            exact ⟨((t : Int) - p.w, rvs, nw, _), ⟨⟨_, _, _, _, _, _, _, _, _, rfl⟩, done, t - p.w, dn hr, hrv, by omega, by omega, by omega⟩, Sb.same⟩
          · have hr : rowOf ws p (t - p.w) = [⟨p.loc, p.ref, pl, lo, p.w, t - p.w⟩] := by rw [hro, if_pos (by omega)]
            wtm_at "Mgo"
            refine ⟨by simp, fun rp => ?_⟩
            wtm_at "Mgo"
            refine b_append (by wtm_at "Mup") (by have := hrv.len; omega) ?_
            wtm_at "Mgo"
            refine' ⟨((t : Int) - p.w, rvs ++ [.ref rp], (rp, .tup [.str (kindS p.loc), .int (p.ref : Int), plV pl, .int lo, .int (p.w : Int), .int ((t : Int) - p.w)]) :: nw, _), ⟨⟨_, _, _, _, _, _, _, _, _, rfl⟩, done ++ [⟨p.loc, p.ref, pl, lo, p.w, t - p.w⟩], t - p.w, ?u1, ?u2, by omega, by omega, by simp; omega⟩, ?sb⟩
            case sb =>
              show Sb ((L, .ns _ _) :: (rl, _) :: _ :: (nw ++ ρ')) _
              wtm_at "Msb"
            case u1 => rw [hd, rowsOf, hr, List.append_assoc]
            case u2 =>
              refine (hrv.mono fun v a h => h.mono (in_cons _)).app (All2.one ⟨rp, rfl, ?_⟩)
              show _ ∈ _ :: _
              rw [show ((t : Int) - p.w) = ((t - p.w : Nat) : Int) by omega]
              exact .head _
  · rintro ⟨t0, rvs, nw, js⟩ ⟨⟨j1, j2, j3, j4, j5, j6, j7, j8, j9, e⟩, done, t, hd, hrv, e2, hsw, hdl⟩
    dsimp only at e e2 hrv ⊢
    rw [List.drop_eq_nil_of_le (by rw [hsv.len]; exact Nat.le_refl _), rowsOf, List.append_nil] at hd
    subst e
    wtm_at "Mgo"
    exact ⟨(rl, .lst rvs) :: (nw ++ σ), by wtm_at "Msb", h rl rvs nw (by rw [hd]; exact hrv)⟩
end
section
set_option maxRecDepth 20000
noncomputable def keyOf (loc : Bool) (ref : Nat) (pl : Option Nat) : Nat := if loc then 9 + ref else match pl with
  | none => ref
  | some j => 5 + j
noncomputable def wk (ws : List Nat) (k : Nat) : Nat := if k < 4 then ws.getD k 0 else if k < 9 then ws.getD 4 0 else ws.getD (k - 4) 0
noncomputable abbrev Tr := List (List Nat)
noncomputable def at_ (T : Tr) (k : Nat) : List Nat := T.getD k []
structure TOk (ws : List Nat) (T : Tr) : Prop where
  len : T.length = 11
  bits : ∀ k, Bits (at_ T k)
  wl : ∀ k, k < 11 → k ≠ 4 → (at_ T k).length = wk ws k
theorem at_set {T : Tr} {k : Nat} (l : List Nat) (h : k < T.length) (i : Nat) : at_ (T.set k l) i = if i = k then l else at_ T i := by
  unfold at_
  rw [List.getD_eq_getElem?_getD, List.getD_eq_getElem?_getD]
  by_cases q : i = k
  · subst q; simp [h]
  · rw [if_neg q, List.getElem?_set_ne (Ne.symm q)]
theorem TOk.set {ws : List Nat} {T : Tr} (O : TOk ws T) {k : Nat} {l : List Nat} (hk : k < 11) (hb : Bits l) (hl : l.length = (at_ T k).length) : TOk ws (T.set k l) where
  len := by rw [List.length_set]; exact O.len
  bits i := by
    rw [at_set l (by rw [O.len]; exact hk)]
    split
    · exact hb
    · exact O.bits i
  wl i h1 h2 := by
    rw [at_set l (by rw [O.len]; exact hk)]
    split
    · rename_i e; rw [hl, ← e]; exact O.wl i h1 h2
    · exact O.wl i h1 h2
structure StR (σ : Led) (ws : List Nat) (vd : List (Int × AV)) (mm : Option (Addr × List (Int × AV))) (fv : List AV) (T : Tr) (n : Nat) : Prop where
  ok : TOk ws T
  sg : ∀ k : Nat, k < 4 → VOk σ (dget vd k) (at_ T k)
  wd : ∀ j : Nat, j < 4 → VOk σ (memG mm j) (at_ T (5 + j))
  fl : fv.length = 2
  fr : ∀ i, i < 2 → ∃ t, fv[i]? = some (AV.ref t) ∧ (t, MO.tup (tv (at_ T (9 + i)))) ∈ σ
  vl : vd.length ≤ n
  ml : ∀ wm d, mm = some (wm, d) → d.length ≤ n
theorem StR.mono {σ σ' : Led} {ws : List Nat} {vd : List (Int × AV)} {mm : Option (Addr × List (Int × AV))} {fv : List AV} {T : Tr} {n n' : Nat} (S : StR σ ws vd mm fv T n) (hs : ∀ p ∈ σ, p ∈ σ') (hn : n ≤ n') : StR σ' ws vd mm fv T n' where
  ok := S.ok
  sg k hk := (S.sg k hk).mono hs
  wd j hj := (S.wd j hj).mono hs
  fl := S.fl
  fr i hi := let ⟨t, a, b⟩ := S.fr i hi; ⟨t, a, hs _ b⟩
  vl := Nat.le_trans S.vl hn
  ml wm d e := Nat.le_trans (S.ml wm d e) hn
section
variable {σ σ' : Led} {ws : List Nat} {vd vd' : List (Int × AV)} {mm mm' : Option (Addr × List (Int × AV))} {fv fv' : List AV} {T : Tr} {n : Nat}
theorem StR.setSig (S : StR σ ws vd mm fv T n) (hs : ∀ p ∈ σ, p ∈ σ') {k : Nat} {l : List Nat} (hk : k < 4) (hb : Bits l) (hl : l.length = (at_ T k).length) (h1 : ∀ j : Int, j ≠ k → dget vd' j = dget vd j) (h2 : VOk σ' (dget vd' k) l) (h3 : vd'.length ≤ vd.length + 1) : StR σ' ws vd' mm fv (T.set k l) (n + 1) where
  ok := S.ok.set (by omega) hb hl
  sg i hi := by
    rw [at_set l (by rw [S.ok.len]; omega)]
    by_cases q : i = k
    · subst q; rw [if_pos rfl]; exact h2
    · rw [if_neg q, h1 i (by omega)]; exact (S.sg i hi).mono hs
  wd j hj := by
    rw [at_set l (by rw [S.ok.len]; omega), if_neg (by omega)]; exact (S.wd j hj).mono hs
  fl := S.fl
  fr i hi := by
    rw [at_set l (by rw [S.ok.len]; omega), if_neg (by omega)]
    obtain ⟨t, a, b⟩ := S.fr i hi
    exact ⟨t, a, hs _ b⟩
  vl := by have := S.vl; omega
  ml wm d e := by have := S.ml wm d e; omega
theorem StR.setWord (S : StR σ ws vd mm fv T n) (hs : ∀ p ∈ σ, p ∈ σ') {k : Nat} {l : List Nat} (hk : k < 4) (hb : Bits l) (hl : l.length = (at_ T (5 + k)).length) (h1 : ∀ j : Int, j ≠ k → memG mm' j = memG mm j) (h2 : VOk σ' (memG mm' k) l) (h3 : ∀ n, (∀ wm d, mm = some (wm, d) → d.length ≤ n) → ∀ wm d, mm' = some (wm, d) → d.length ≤ n + 1) : StR σ' ws vd mm' fv (T.set (5 + k) l) (n + 1) where
  ok := S.ok.set (by omega) hb hl
  sg i hi := by
    rw [at_set l (by rw [S.ok.len]; omega), if_neg (by omega)]; exact (S.sg i hi).mono hs
  wd j hj := by
    rw [at_set l (by rw [S.ok.len]; omega)]
    by_cases q : j = k
    · subst q; rw [if_pos rfl]; exact h2
    · rw [if_neg (by omega), h1 j (by omega)]; exact (S.wd j hj).mono hs
  fl := S.fl
  fr i hi := by
    rw [at_set l (by rw [S.ok.len]; omega), if_neg (by omega)]
    obtain ⟨t, a, b⟩ := S.fr i hi
    exact ⟨t, a, hs _ b⟩
  vl := by have := S.vl; omega
  ml := h3 n S.ml
theorem StR.setLoc (S : StR σ ws vd mm fv T n) (hs : ∀ p ∈ σ, p ∈ σ') {k : Nat} {l : List Nat} {t : Addr} (hk : k < 2) (hb : Bits l) (hl : l.length = (at_ T (9 + k)).length) (ht : (t, MO.tup (tv l)) ∈ σ') : StR σ' ws vd mm (fv.set k (.ref t)) (T.set (9 + k) l) (n + 1) where
  ok := S.ok.set (by omega) hb hl
  sg i hi := by
    rw [at_set l (by rw [S.ok.len]; omega), if_neg (by omega)]; exact (S.sg i hi).mono hs
  wd j hj := by
    rw [at_set l (by rw [S.ok.len]; omega), if_neg (by omega)]; exact (S.wd j hj).mono hs
  fl := by rw [List.length_set]; exact S.fl
  fr i hi := by
    rw [at_set l (by rw [S.ok.len]; omega)]
    by_cases q : i = k
    · subst q
      rw [if_pos rfl]
      exact ⟨t, by rw [List.getElem?_set_self (by rw [S.fl]; exact hi)], ht⟩
    · obtain ⟨t', a, b⟩ := S.fr i hi
      exact ⟨t', by rw [List.getElem?_set_ne (Ne.symm q)]; exact a, by rw [if_neg (by omega)]; exact hs _ b⟩
  vl := by have := S.vl; omega
  ml wm d e := by have := S.ml wm d e; omega
end
noncomputable def stepRow (value : List Nat) (s : Tr × List Nat) (r : Rw) : Tr × List Nat :=
  let k := keyOf r.loc r.ref r.pl
  let l := put (at_ s.1 k) r.lo ((value.drop r.take).take r.w)
  (s.1.set k l, if r.loc = false ∧ l ≠ at_ s.1 k ∧ r.ref ∉ s.2 then s.2 ++ [r.ref] else s.2)
noncomputable def runRows (value : List Nat) : Tr × List Nat → List Rw → Tr × List Nat
  | s, [] => s
  | s, r :: rs => runRows value (stepRow value s r) rs
structure Rw.Ok (ws : List Nat) (n : Nat) (r : Rw) : Prop where
  tgt : (r.loc = true ∧ r.ref < 2 ∧ r.pl = none) ∨ (r.loc = false ∧ r.ref < 4 ∧ r.pl = none) ∨ (r.loc = false ∧ r.ref = 4 ∧ ∃ j, j < 4 ∧ r.pl = some j)
  lo1 : 0 < r.lo + r.w
  lo2 : r.lo < wid ws r.loc r.ref
  w1 : 1 ≤ r.w
  tk : r.take + r.w ≤ n
noncomputable def chD (ch : List Nat) : List (Int × AV) := ch.map fun (r : Nat) => ((r : Int), AV.bool true)
theorem chD_put (ch : List Nat) (r : Nat) : dput (chD ch) r (.bool true) = chD (if r ∈ ch then ch else ch ++ [r]) := by
  unfold dput
  have hany : ((chD ch).any fun x => decide (x.1 = (r : Int))) = decide (r ∈ ch) := by
    unfold chD
    induction ch with
    | nil => rfl
    | cons x ch ih =>
      rw [List.map_cons, List.any_cons, ih]
      by_cases q : x = r
      · subst q; simp
      · have : ¬ (x : Int) = r := by omega
        simp [this, Ne.symm q]
  rw [hany]
  by_cases q : r ∈ ch
  · rw [if_pos (by simpa using q), if_pos q]
    unfold chD
    rw [List.map_map]
    refine List.map_congr_left fun x _ => ?_
    show (if (x : Int) = r then _ else _) = _
    split <;> rfl
  · rw [if_neg (by simpa using q), if_neg q]
    unfold chD
    rw [List.map_append]; rfl
theorem chD_len (ch : List Nat) : (chD ch).length = ch.length := by simp [chD]
theorem chD_keys (ch : List Nat) : (chD ch).map (·.1) = ch.map Int.ofNat := by unfold chD; rw [List.map_map]; rfl
theorem keyOf_lt {ws : List Nat} {n : Nat} {r : Rw} (O : r.Ok ws n) : keyOf r.loc r.ref r.pl < 11 ∧ keyOf r.loc r.ref r.pl ≠ 4 ∧ wk ws (keyOf r.loc r.ref r.pl) = wid ws r.loc r.ref := by
  rcases O.tgt with ⟨h1, h2, h3⟩ | ⟨h1, h2, h3⟩ | ⟨h1, h2, j, h4, h3⟩
  · rw [h1, h3]
    simp only [keyOf, if_true, wk, wid]
    refine ⟨by omega, by omega, ?_⟩
    rw [if_neg (by omega), if_neg (by omega), show 9 + r.ref - 4 = 5 + r.ref by omega]
  · rw [h1, h3]
    simp only [keyOf, wk, wid, Bool.false_eq_true, if_false]
    refine ⟨by omega, by omega, ?_⟩
    rw [if_pos h2]
  · rw [h1, h2, h3]
    simp only [keyOf, wk, wid, Bool.false_eq_true, if_false]
    refine ⟨by omega, by omega, ?_⟩
    rw [if_neg (by omega), if_pos (by omega)]
end
section
set_option maxRecDepth 20000
theorem app_sub {nw ρ ρ' : Led} (h : ∀ q ∈ ρ, q ∈ ρ') : ∀ p ∈ nw ++ ρ, p ∈ nw ++ ρ' := fun p hp => by
  rcases List.mem_append.mp hp with hp | hp
  · exact List.mem_append_left _ hp
  · exact List.mem_append_right _ (h _ hp)
variable {c : Cx} {A : Around} {σ : Led} {K : Frag}
theorem c_store_rows (G : Ps c K) (R : Rm A 8) {ρ : Led} {x sl va ma cx fr rl vp : Addr} {ws : List Nat} {vd : List (Int × AV)} {mm : Option (Addr × List (Int × AV))} {fv rvs : List AV} {T : Tr} {rows : List Rw} {value : List Nat} {n : Nat} (W : Wd ρ x sl va ma ws) (C : Cw ρ cx x fr)
    (m0 : (rl, .lst rvs) ∈ ρ) (m1 : (vp, .tup (tv value)) ∈ ρ) (hrv : All2 (RowAt ρ) rvs rows) (S0 : StR ρ ws vd mm fv T n) (hok : ∀ r ∈ rows, r.Ok ws value.length) (hb : Bits value) (hvl : value.length ≤ 60) (hn : n + rows.length ≤ 60) (h512 : ws.getD 5 0 = 4 ∧ ws.getD 6 0 = 2) {Q : AV → Led → Prop}
    (h : ∀ r vd' mm' fv' nw ns, (∀ τ, StR τ ws vd mm fv T n → StR (nw ++ τ) ws vd' mm' fv' (runRows value (T, []) rows).1 (n + rows.length)) → ns.Perm ((runRows value (T, []) rows).2.map Int.ofNat) → ns.Pairwise (· ≤ ·) → Q (.ref r) ((r, .lst (il ns)) :: (va, .dct vd') :: (ma, .dct (memD mm')) :: (memL mm' ++ ((fr, .lst fv') :: (nw ++ ρ))))) :
    Call c A (.ref 529) [.ref rl, .ref vp, .ref cx] ((va, .dct vd) :: (ma, .dct (memD mm)) :: (memL mm ++ ((fr, .lst fv) :: ρ))) Q := by
  refine call_fn (k := 8) G.toGd G.f_store_rows.2 ok_store_rows rfl R.room fun L env F0 => ?_
  simp only [initV, noneV]
  have R' := R.deeper (env := env)
  refine x_cons ?_
  wtm_at "Mgo"
  intro cd
  wtm_at "Mgo"
  refine fo_list (P := List (Int × AV) × Option (Addr × List (Int × AV)) × List AV × List Nat × Led × List (Option AV)) (l := rvs)
    (fun p ρ => (L, .ns nm_store_rows (some (.ref rl) :: some (.ref vp) :: some (.ref cx) :: some (.ref cd) :: p.2.2.2.2.2)) :: (cd, .dct (chD p.2.2.2.1)) :: (va, .dct p.1) :: (ma, .dct (memD p.2.1)) :: (memL p.2.1 ++ ((fr, .lst p.2.2.1) :: (p.2.2.2.2.1 ++ ρ))))
    (fun i p => (∃ j1 j2 j3 j4 j5 j6 j7, p.2.2.2.2.2 = [j1, j2, j3, j4, j5, j6, j7]) ∧ ∃ Ti, runRows value (T, []) rows = runRows value (Ti, p.2.2.2.1) (rows.drop i) ∧ (∀ τ, StR τ ws vd mm fv T n → StR (p.2.2.2.2.1 ++ τ) ws p.1 p.2.1 p.2.2.1 Ti (n + i)) ∧ p.2.2.2.1.length ≤ i)
    ρ (vd, mm, fv, [], [], [none, none, none, none, none, none, none]) R'.hd (fun p ρ => by simp) (by wtm_at "Msb") (fun p => by wtm_at "Mmem") ⟨⟨_, _, _, _, _, _, _, rfl⟩, T, rfl, fun τ h => h, Nat.le_refl _⟩ ?_ ?_
  · intro i v p ρ' hv hinv hρ hsb_
    obtain ⟨vdi, mmi, fvi, ch, nw, js⟩ := p
    obtain ⟨⟨j1, j2, j3, j4, j5, j6, j7, e⟩, Ti, hrun, hS, hcl⟩ := hinv
    dsimp only at e hrun hS hcl ⊢
    have S := hS ρ S0
    subst e
    obtain ⟨r, hr, S1⟩ := hrv.get hv
    have rok := hok r (List.mem_of_getElem? hr)
    obtain ⟨rp, ev, s1⟩ := S1.mono hρ
    subst ev
    rw [drop_at hr] at hrun
    have ir : i < rows.length := (List.getElem?_eq_some_iff.mp hr).1
    have W' := W.mono hρ
    have C' := C.mono hρ
    have m1' := hρ _ m1
    have S' : StR (nw ++ ρ') ws vdi mmi fvi Ti (n + i) := S.mono (app_sub hρ) (Nat.le_refl _)
    obtain ⟨cd', c1, c2⟩ := C'.ob
    wtm_at "Mgo"
    obtain ⟨loc, ref, pl, lo, w, take⟩ := r
    obtain ⟨tgt, lo1, lo2, w1, tk⟩ := rok
    obtain ⟨k1, k2, k3⟩ := keyOf_lt ⟨tgt, lo1, lo2, w1, tk⟩
    dsimp only at tgt lo1 lo2 w1 tk k1 k2 k3 s1 hrun ⊢
    refine c_slice_vec G (R'.less (by decide)) (bits := value) (by wtm_at "Mmem") w1 tk hvl fun q => ?_
    generalize hpc : (value.drop take).take w = pc
    have hpl : pc.length = w := by rw [← hpc, List.length_take, List.length_drop]; omega
    have hpb : Bits pc := fun b hb' => by rw [← hpc] at hb'; exact hb _ (List.mem_of_mem_drop (List.mem_of_mem_take hb'))
    have hwl : (at_ Ti (keyOf loc ref pl)).length = wid ws loc ref := (S.ok.wl _ k1 k2).trans k3
    have hrn : runRows value (T, []) rows = runRows value (Ti.set (keyOf loc ref pl) (put (at_ Ti (keyOf loc ref pl)) lo pc), if loc = false ∧ put (at_ Ti (keyOf loc ref pl)) lo pc ≠ at_ Ti (keyOf loc ref pl) ∧ ref ∉ ch then ch ++ [ref] else ch) (rows.drop (i + 1)) := by
      rw [hrun, ← hpc]; rfl
    have hch : ∀ ch', (loc = false ∧ put (at_ Ti (keyOf loc ref pl)) lo pc ≠ at_ Ti (keyOf loc ref pl) ∧ ref ∉ ch → ch' = ch ++ [ref]) → (¬ (loc = false ∧ put (at_ Ti (keyOf loc ref pl)) lo pc ≠ at_ Ti (keyOf loc ref pl) ∧ ref ∉ ch) → ch' = ch) → runRows value (T, []) rows = runRows value (Ti.set (keyOf loc ref pl) (put (at_ Ti (keyOf loc ref pl)) lo pc), ch') (rows.drop (i + 1)) := by
      intro ch' a b
      rw [hrn]
      split
      · rename_i z; rw [a z]
      · rename_i z; rw [b z]
    have hb2 := put_bits (lo := lo) (S.ok.bits (keyOf loc ref pl)) hpb
    have hl2 := put_len (at_ Ti (keyOf loc ref pl)) lo pc
    rcases tgt with ⟨h1, h2, h3⟩ | ⟨h1, h2, h3⟩ | ⟨h1, h2, j, h4, h3⟩
    · subst h1 h3
      obtain ⟨t, ft, mt⟩ := S'.fr ref h2
      wtm_at "Mgo"
      refine tv_false (by decide) ?_
      wtm_at "Mgo"
      refine u_list (by wtm_at "Mmem") (by omega) (by omega) (by rw [Int.toNat_natCast]; exact ft) ?_
      wtm_at "Mgo"
      have hll : (at_ Ti (9 + ref)).length = wid ws true ref := hwl
      have hw2 : wid ws true ref = ws.getD (5 + ref) 0 := rfl
      have hw3 := W.lo (5 + ref) (by omega)
      refine c_put_slice G (R'.less (by decide)) (l := at_ Ti (9 + ref)) (pc := pc) (by wtm_at "Mmem") (by wtm_at "Mmem") (by rw [hpl]; exact lo1) (by omega) (by omega) (by omega) (by omega) (by omega) fun t2 => ?_
      wtm_at "Mgo"
      refine si_list (by wtm_at "Mup") (by omega) (by rw [S.fl]; omega) (by omega) ?_
      rw [Int.toNat_natCast]
      wtm_at "Mgo"
      refine' ⟨(vdi, mmi, fvi.set ref (.ref t2), ch, (t2, .tup (tv (put (at_ Ti (9 + ref)) lo pc))) :: nw, _), ⟨⟨_, _, _, _, _, _, _, rfl⟩, Ti.set (9 + ref) (put (at_ Ti (9 + ref)) lo pc), ?u1, ?u2, Nat.le_succ_of_le hcl⟩, ?sb⟩
      case sb =>
        show Sb ((L, .ns _ _) :: (cd, _) :: (va, _) :: (ma, _) :: (memL mmi ++ ((fr, _) :: (t2, _) :: (nw ++ ρ')))) _
        wtm_at "Msb"
      case u1 =>
        exact hch _ (fun z => by cases z.1) (fun _ => rfl)
      case u2 => exact fun τ hτ => (hS τ hτ).setLoc (in_cons _) h2 hb2 hl2 (.head _)
    · subst h1 h3
      obtain ⟨st, st1, st2⟩ := W'.sx
      wtm_at "Mgo"
      refine tv_true (by decide) ?_
      wtm_at "Mgo"
      refine Call.sb (σ' := (va, .dct vdi) :: _) (by wtm_at "Msb") ?_
      have hll : (at_ Ti ref).length = wid ws false ref := hwl
      have hw2 : wid ws false ref = ws.getD ref 0 := rfl
      refine c_set_sig G (R'.less (by decide)) (l := at_ Ti ref) (pc := pc) (W'.mono fun z hz => by wtm_at "Mmem") h2 ((S'.sg ref h2).mono fun z hz => by wtm_at "Mmem") (by omega) (by have := S.vl; omega) (S.ok.bits _) hpb (by wtm_at "Mmem") (by rw [hpl]; exact lo1) (by omega) (by omega) (by omega) fun nw1 vd' hd1 hd2 hd3 => ?_
      refine tv_dec (fun q2 => ?_) (fun q2 => ?_)
      · wtm_at "Mgo"
        refine si_dct (by wtm_at "Mup") (by rw [chD_len]; omega) ?_
        rw [chD_put]
        wtm_at "Mgo"
        refine' ⟨(vd', mmi, fvi, if ref ∈ ch then ch else ch ++ [ref], nw1 ++ nw, _), ⟨⟨_, _, _, _, _, _, _, rfl⟩, Ti.set ref (put (at_ Ti ref) lo pc), ?u1, ?u2, ?u3⟩, ?sb⟩
        case sb =>
          show Sb ((L, .ns _ _) :: (cd, _) :: (va, _) :: (ma, _) :: (memL mmi ++ ((fr, _) :: (nw1 ++ nw ++ ρ')))) _
          rw [List.append_assoc]
          wtm_at "Msb"
        case u1 =>
          exact hch _ (fun z => if_neg z.2.2) (fun z => by
            by_cases q3 : ref ∈ ch
            · exact if_pos q3
            · exact absurd ⟨rfl, q2, q3⟩ z)
        case u2 =>
          intro τ hτ
          have S := hS τ hτ
          show StR (nw1 ++ nw ++ τ) _ _ _ _ _ _
          rw [List.append_assoc]
          exact S.setSig (vd' := vd') (in_app nw1) h2 hb2 hl2 hd1 (hd2 _ (S.sg ref h2)) hd3
        case u3 =>
          dsimp only
          split
          · omega
          · rw [List.length_append]; simp; omega
      · wtm_at "Mgo"
        refine' ⟨(vd', mmi, fvi, ch, nw1 ++ nw, _), ⟨⟨_, _, _, _, _, _, _, rfl⟩, Ti.set ref (put (at_ Ti ref) lo pc), ?u1, ?u2, Nat.le_succ_of_le hcl⟩, ?sb⟩
        case sb =>
          show Sb ((L, .ns _ _) :: (cd, _) :: (va, _) :: (ma, _) :: (memL mmi ++ ((fr, _) :: (nw1 ++ nw ++ ρ')))) _
          rw [List.append_assoc]
          wtm_at "Msb"
        case u1 =>
          exact hch _ (fun z => absurd z.2.1 q2) (fun _ => rfl)
        case u2 =>
          intro τ hτ
          have S := hS τ hτ
          show StR (nw1 ++ nw ++ τ) _ _ _ _ _ _
          rw [List.append_assoc]
          exact S.setSig (vd' := vd') (in_app nw1) h2 hb2 hl2 hd1 (hd2 _ (S.sg ref h2)) hd3
    · subst h1 h3 h2
      obtain ⟨st, st1, st2⟩ := W'.sx
      wtm_at "Mgo"
      refine tv_true (by decide) ?_
      wtm_at "Mgo"
      refine Call.sb (σ' := (ma, .dct (memD mmi)) :: (memL mmi ++ _)) (by wtm_at "Msb") ?_
      have hll : (at_ Ti (5 + j)).length = wid ws false 4 := hwl
      have hw2 : wid ws false 4 = ws.getD 4 0 := rfl
      refine c_set_word G (R'.less (by decide)) (l := at_ Ti (5 + j)) (pc := pc) (W'.mono fun z hz => by wtm_at "Mmem") h4 ((S'.wd j h4).mono fun z hz => by wtm_at "Mmem") (by omega) (fun wm d e => by have := S.ml wm d e; omega) (S.ok.bits _) hpb (by wtm_at "Mmem") (by rw [hpl]; exact lo1) (by omega) (by omega) (by omega) fun nw1 mm1 hd1 hd2 hd3 => ?_
      refine tv_dec (fun q2 => ?_) (fun q2 => ?_)
      · wtm_at "Mgo"
        refine si_dct (by wtm_at "Mup") (by rw [chD_len]; omega) ?_
        rw [chD_put]
        wtm_at "Mgo"
        refine' ⟨(vdi, mm1, fvi, if 4 ∈ ch then ch else ch ++ [4], nw1 ++ nw, _), ⟨⟨_, _, _, _, _, _, _, rfl⟩, Ti.set (5 + j) (put (at_ Ti (5 + j)) lo pc), ?u1, ?u2, ?u3⟩, ?sb⟩
        case sb =>
          show Sb ((L, .ns _ _) :: (cd, _) :: (va, _) :: (ma, _) :: (memL mm1 ++ ((fr, _) :: (nw1 ++ nw ++ ρ')))) _
          rw [List.append_assoc]
          wtm_at "Msb"
        case u1 =>
          exact hch _ (fun z => if_neg z.2.2) (fun z => by
            by_cases q3 : 4 ∈ ch
            · exact if_pos q3
            · exact absurd ⟨rfl, q2, q3⟩ z)
        case u2 =>
          intro τ hτ
          have S := hS τ hτ
          show StR (nw1 ++ nw ++ τ) _ _ _ _ _ _
          rw [List.append_assoc]
          exact S.setWord (mm' := mm1) (in_app nw1) h4 hb2 hl2 hd1 (hd2 _ (S.wd j h4)) hd3
        case u3 =>
          dsimp only
          split
          · omega
          · rw [List.length_append]; simp; omega
      · wtm_at "Mgo"
        refine' ⟨(vdi, mm1, fvi, ch, nw1 ++ nw, _), ⟨⟨_, _, _, _, _, _, _, rfl⟩, Ti.set (5 + j) (put (at_ Ti (5 + j)) lo pc), ?u1, ?u2, Nat.le_succ_of_le hcl⟩, ?sb⟩
        case sb =>
          show Sb ((L, .ns _ _) :: (cd, _) :: (va, _) :: (ma, _) :: (memL mm1 ++ ((fr, _) :: (nw1 ++ nw ++ ρ')))) _
          rw [List.append_assoc]
          wtm_at "Msb"
        case u1 =>
          exact hch _ (fun z => absurd z.2.1 q2) (fun _ => rfl)
        case u2 =>
          intro τ hτ
          have S := hS τ hτ
          show StR (nw1 ++ nw ++ τ) _ _ _ _ _ _
          rw [List.append_assoc]
          exact S.setWord (mm' := mm1) (in_app nw1) h4 hb2 hl2 hd1 (hd2 _ (S.wd j h4)) hd3
  · rintro ⟨vdi, mmi, fvi, ch, nw, js⟩ ⟨⟨j1, j2, j3, j4, j5, j6, j7, e⟩, Ti, hrun, S, hcl⟩
    dsimp only at e hrun S hcl ⊢
    subst e
    rw [List.drop_eq_nil_of_le (by rw [hrv.len]; exact Nat.le_refl _)] at hrun
    have hrun' : runRows value (T, []) rows = (Ti, ch) := hrun
    rw [hrv.len] at S hcl
    wtm_at "Mgo"
    refine b_sortedD G.toGd R'.hd (by wtm_at "Mmem") (by rw [chD_len]; omega) fun r ns hp hs => ?_
    rw [chD_keys] at hp
    have h' := h r vdi mmi fvi nw ns
    rw [hrun'] at h'
    exact ⟨_, by wtm_at "Msb", h' S hp hs⟩
end
section
set_option maxRecDepth 20000
variable {c : Cx} {A : Around} {σ : Led} {K : Frag}
theorem dcs_of {o : Obj} (h : (MO.dct []).Ok c o) : (MO.dcs 0).Ok c o := by
  obtain ⟨kvs, ⟨es, ep, ex, hd, hk, hp, hn⟩, e⟩ := h
  cases List.map_eq_nil_iff.mp e
  have hes : es = #[] := by
    cases hq : es.toList with
    | nil => exact Array.toList_eq_nil_iff.mp hq
    | cons a l => rw [hq] at hp; cases hp
  subst hes
  exact ⟨[], ⟨#[], ep, ex, hd, (fun e he => by simp at he), .nil, by simp⟩, Nat.le_refl _⟩
theorem c_Signal (G : Ps c K) (R : Rm A 6) {k w : Nat} {pth : Str} {Q : AV → Led → Prop} (h : ∀ x d, Q (.ref x) ((x, .ins 588 d) :: (d, .fld (sigF k w pth false)) :: σ)) :
    Call c A (.ref 588) [.int (k : Int), .str pth, .str (Str.ofString "reg"), .int (w : Int), .bool false, .int ((w : Int) - 1), .int 0] σ Q := by
  refine call_cls G.X G.c_Signal.mks G.t_Signal___init__.fd G.t_Signal___init__.ty fun x d A' hh hd hu => ?_
  have R0 : Rm A' 2 := ⟨hh.trans R.hd, by have := R.dp; omega, by have := R.un; omega⟩
  refine callC_fn (k := 0) G.toGd G.m_Signal_init ok_Signal_init rfl R0.room fun L env F => ?_
  simp only [initV, noneV]
  have R' := R0.deeper (env := env)
  refine x_cons ?_
  wtm_at "Mgo"
  have h2 : ∀ r, r = sigF k w pth false → Q (.ref x) ((x, .ins 588 d) :: (d, .fld r) :: σ) := fun r e => e ▸ h x d
  exact ⟨_, by wtm_at "Msb", trivial, h2 _ (by kernel_rfl)⟩
theorem c_add_signal (G : Ps c K) (R : Rm A 8) {ρ : Led} {da dd sl b1 b2 b3 b4 b5 b6 b7 b8 bp : Addr} {sigs : List AV} {n w : Nat} {pth : Str} (m1 : (da, .ins 651 dd) ∈ ρ) (m2 : (dd, .fld (dsF sl b1 b2 b3 b4 b5 b6 b7 b8 bp)) ∈ ρ) (hn : n ≤ 900) (hs : sigs.length ≤ 900) {Q : AV → Led → Prop}
    (h : ∀ x d, Q (.ref x) ((x, .ins 588 d) :: (d, .fld (sigF sigs.length w pth false)) :: (sl, .lst (sigs ++ [.ref x])) :: (bp, .dcs (n + 1)) :: ρ)) :
    Call c A (.ref 613) [.ref da, .str pth, .str (Str.ofString "reg"), .int (w : Int), .bool false, .int ((w : Int) - 1), .int 0, .int (-1)] ((sl, .lst sigs) :: (bp, .dcs n) :: ρ) Q := by
  refine call_fn (k := 1) G.toGd G.m_Design_add_signal ok_Design_add_signal rfl R.room fun L env F => ?_
  simp only [initV, noneV]
  have R' := R.deeper (env := env)
  refine x_cons ?_
  wtm_at "Mgo"
  refine c_Signal G (R'.less (by decide)) fun x d => ?_
  wtm_at "Mgo"
  rw [show fput (sigF sigs.length w pth false) (Str.ofString "at") (.int (-1)) = sigF sigs.length w pth false from by kernel_rfl]
  refine b_append (by wtm_at "Mup") (by omega) ?_
  wtm_at "Mgo"
  refine si_dcs (by wtm_at "Mup") (by omega) ?_
  wtm_at "Mgo"
  exact ⟨(x, .ins 588 d) :: (d, .fld (sigF sigs.length w pth false)) :: (sl, .lst (sigs ++ [.ref x])) :: (bp, .dcs (n + 1)) :: ρ, by wtm_at "Msb", h x d⟩
theorem c_Design (G : Ps c K) (R : Rm A 6) {Q : AV → Led → Prop} (h : ∀ da dd sl b1 b2 b3 b4 b5 b6 b7 b8 bp, Q (.ref da) ((da, .ins 651 dd) :: (dd, .fld (dsF sl b1 b2 b3 b4 b5 b6 b7 b8 bp)) :: (sl, .lst []) :: (bp, .dcs 0) :: σ)) :
    Call c A (.ref 651) [] σ Q := by
  refine call_cls G.X G.c_Design.mks G.t_Design___init__.fd G.t_Design___init__.ty fun x d A' hh hd hu => ?_
  have R0 : Rm A' 2 := ⟨hh.trans R.hd, by have := R.dp; omega, by have := R.un; omega⟩
  refine callC_fn (k := 0) G.toGd G.m_Design_init ok_Design_init rfl R0.room fun L env F => ?_
  simp only [initV, noneV]
  have R' := R0.deeper (env := env)
  refine x_cons ?_
  wtm_at "Mgo"
  refine ⟨by decide, fun sl => ?_⟩
  wtm_at "Mgo"
  refine ⟨by decide, fun b1 => ?_⟩
  wtm_at "Mgo"
  refine ⟨by decide, fun b2 => ?_⟩
  wtm_at "Mgo"
  refine ⟨by decide, fun b3 => ?_⟩
  wtm_at "Mgo"
  refine ⟨by decide, fun b4 => ?_⟩
  wtm_at "Mgo"
  refine ⟨by decide, fun b5 => ?_⟩
  wtm_at "Mgo"
  refine ⟨by decide, fun b6 => ?_⟩
  wtm_at "Mgo"
  refine ⟨by decide, fun b7 => ?_⟩
  wtm_at "Mgo"
  refine ⟨by decide, fun b8 => ?_⟩
  wtm_at "Mgo"
  intro bp
  refine W.weak (σ' := (bp, .dcs 0) :: _) ?_ (fun hp H => H.weaken .here fun o => dcs_of)
  wtm_at "Mgo"
  have h2 : ∀ r, r = dsF sl b1 b2 b3 b4 b5 b6 b7 b8 bp → Q (.ref x) ((x, .ins 651 d) :: (d, .fld r) :: (sl, .lst []) :: (bp, .dcs 0) :: σ) := fun r e => e ▸ h x d sl b1 b2 b3 b4 b5 b6 b7 b8 bp
  exact ⟨_, by wtm_at "Msb", trivial, h2 _ (by kernel_rfl)⟩
theorem c_Store (G : Ps c K) (R : Rm A 6) {sl : Addr} {Q : AV → Led → Prop} (h : ∀ x st va ma, Q (.ref x) ((x, .ins 693 st) :: (st, .fld (stF sl va ma)) :: (va, .dct []) :: (ma, .dct []) :: σ)) :
    Call c A (.ref 693) [.ref sl] σ Q := by
  refine call_cls G.X G.c_Store.mks G.t_Store___init__.fd G.t_Store___init__.ty fun x d A' hh hd hu => ?_
  have R0 : Rm A' 2 := ⟨hh.trans R.hd, by have := R.dp; omega, by have := R.un; omega⟩
  refine callC_fn (k := 0) G.toGd G.m_Store_init ok_Store_init rfl R0.room fun L env F => ?_
  simp only [initV, noneV]
  have R' := R0.deeper (env := env)
  refine x_cons ?_
  wtm_at "Mgo"
  intro va
  wtm_at "Mgo"
  intro ma
  wtm_at "Mgo"
  have h2 : ∀ r, r = stF sl va ma → Q (.ref x) ((x, .ins 693 d) :: (d, .fld r) :: (va, .dct []) :: (ma, .dct []) :: σ) := fun r e => e ▸ h x d va ma
  exact ⟨_, by wtm_at "Msb", trivial, h2 _ (by kernel_rfl)⟩
theorem c_Context (G : Ps c K) (R : Rm A 6) {x fr : Addr} {Q : AV → Led → Prop} (h : ∀ cx cd, Q (.ref cx) ((cx, .ins 736 cd) :: (cd, .fld (ctF x fr)) :: σ)) :
    Call c A (.ref 736) [.ref x, .ref fr] σ Q := by
  refine call_cls G.X G.c_Context.mks G.t_Context___init__.fd G.t_Context___init__.ty fun cx d A' hh hd hu => ?_
  have R0 : Rm A' 2 := ⟨hh.trans R.hd, by have := R.dp; omega, by have := R.un; omega⟩
  refine callC_fnD (k := 0) (vs := [.ref cx, .ref x, .ref fr, .int 0]) G.toGd G.m_Context_init ok_Context_init rfl R0.room (bnd_Context_init G) fun L env F => ?_
  simp only [initV, noneV]
  have R' := R0.deeper (env := env)
  refine x_cons ?_
  wtm_at "Mgo"
  have h2 : ∀ r, r = ctF x fr → Q (.ref cx) ((cx, .ins 736 d) :: (d, .fld r) :: σ) := fun r e => e ▸ h cx d
  exact ⟨_, by wtm_at "Msb", trivial, h2 _ (by kernel_rfl)⟩
end
section
set_option maxRecDepth 20000
section
variable {c : Cx} {A : Around} {env : Env} {L : Addr} {names : List (Str × NameKind)} {σ σ' : Led} {pos : Pos} {a b d C f r : Addr} {l l' : List AV} {K : Frag}
theorem fmod_nat (x m : Nat) : Int.fmod (x : Int) (m : Int) = ((x % m : Nat) : Int) := by
  rw [Int.fmod_eq_emod_of_nonneg _ (Int.natCast_nonneg _)]; rfl
theorem fdiv_nat (x m : Nat) : Int.fdiv (x : Int) (m : Int) = ((x / m : Nat) : Int) := by
  rw [Int.fdiv_eq_ediv_of_nonneg _ (Int.natCast_nonneg _)]; rfl
theorem o_modL {x : Nat} {y : Int} (m : Nat) (hy : y = m) (hm : 0 < m) {Q : AV → Led → Prop} (h : Q (.int ((x % m : Nat) : Int)) σ) : Op2 c A (binaryOp .Mod) er (.int (x : Int)) (.int y) σ Q := by
  subst hy
  exact o_mod (by omega) (by rw [fmod_nat]; exact h)
theorem o_divL {x : Nat} {y : Int} (m : Nat) (hy : y = m) (hm : 0 < m) (hs : m < 1073741824) {Q : AV → Led → Prop} (h : Q (.int ((x / m : Nat) : Int)) σ) : Op2 c A (binaryOp .FloorDiv) er (.int (x : Int)) (.int y) σ Q := by
  subst hy
  exact o_div (by omega) (by rw [fdiv_nat]; exact h) (PyProof.noPylong_small (by rw [Int.natAbs_natCast]; exact hs))
theorem o_powL {k : Nat} (hk : k ≤ 1000) {Q : AV → Led → Prop} (h : Q (.int ((2 ^ k : Nat) : Int)) σ) : Op2 c A (binaryOp .Pow) er (.int 2) (.int (k : Int)) σ Q :=
  o_pow (by omega) (by omega) (by decide) (by
    have : (2 : Int) ^ (k : Int).toNat = ((2 ^ k : Nat) : Int) := by rw [Int.toNat_natCast]; push_cast; rfl
    rw [this]; exact h)
theorem o_mulN {x y : Nat} (hx : x < 2 ^ 64) {Q : AV → Led → Prop} (h : Q (.int ((x * y : Nat) : Int)) σ) : Op2 c A (binaryOp .Mult) er (.int (x : Int)) (.int (y : Int)) σ Q :=
  o_mul (by push_cast at h; exact h) (by omega)
theorem e_cutv {e : Expr} {w : AV} {Q : AV → Led → Prop} (h : E c A env e σ (fun v σ1 => v = w ∧ σ1 = σ)) (k : Q w σ) : E c A env e σ Q := W.mono h (fun v σ1 ⟨a, b⟩ => by subst a b; exact k)
noncomputable def BL (c : Cx) (a : Addr) (l : List AV) : Prop := ∃ vs : Array Value, c.B.IsList a vs ∧ vs.toList.map er = l
theorem e_uptoB {value e : Expr} {p : Pos} {Q : AV → Led → Prop} (h : E c A env value σ fun o σ1 => E c A env e σ1 fun u σ2 => ∃ a l n, o = .ref a ∧ BL c a l ∧ u = .int n ∧ 0 ≤ n ∧ l.length ≤ 1000000 ∧ ∀ r, Q (.ref r) ((r, .lst (l.take n.toNat)) :: σ2))
    (ht : ∀ o r, letTemporaryGo value o r = pure () := by intro _ _; with_unfolding_all rfl) : E c A env (.Subscript value (.Slice none (some e) none p) pos) σ Q := fun s hs =>
  wpAny_Subscript_list_slice (wpAny_mono (h s hs) (fun o s1 ⟨σ1, h1, k1⟩ => evalPart_none_step (evalPart_some_step (wpAny_mono (k1 s1 h1) (fun u s2 ⟨σ2, h2, k2⟩ => by
    obtain ⟨a, l, n, eo, hm, eu, hn, hl, hq⟩ := k2
    cases er_ref eo
    obtain ⟨t, rfl⟩ := er_int eu
    obtain ⟨vs, ⟨oB, hB, hcl, nn, hdt⟩, ev⟩ := hm
    have ho : s2.heap.IsList a vs := ⟨oB, h2.hp.keep _ _ hB, hcl, nn, hdt⟩
    have hz := arr_size ev
    refine ⟨a, vs, none, some n, rfl, ho, by rw [hz]; unfold sizeLine; omega, .none, .int _ _, (s2.heap.objs.size + 1, .lst (l.take n.toNat)) :: σ2, h2.puth ?_, hq _⟩
    rw [slice_upto vs hn]
    have H := (h2.hp.push { cls := .type "slice", data := .fields #[.none, .int n t, .none] }).new (mo := .lst (l.take n.toNat)) (o := { cls := .type "list", data := .seq (vs.toList.take n.toNat).toArray }) rfl ⟨_, 0, rfl, by rw [List.map_take, ev]⟩
    rw [Heap.size_push] at H
    exact H) fun _ _ x => x.elim))) fun _ _ x => x.elim) ht
end
noncomputable def bl (l : List Nat) : List AV := l.map fun (n : Nat) => AV.int (n : Int)
theorem bl_il (l : List Nat) : bl l = il (l.map Int.ofNat) := by unfold bl il; rw [List.map_map]; rfl
theorem bl_len (l : List Nat) : (bl l).length = l.length := by simp [bl]
theorem bl_get {l : List Nat} {i b : Nat} (h : l[i]? = some b) : (bl l)[i]? = some (.int (b : Int)) := by unfold bl; rw [List.getElem?_map, h]; rfl
theorem bl_app (l : List Nat) (b : Nat) : bl l ++ [.int (b : Int)] = bl (l ++ [b]) := by simp [bl]
theorem bl_take (l : List Nat) (k : Nat) : (bl l).take k = bl (l.take k) := by unfold bl; rw [List.map_take]
theorem bl_drop (l : List Nat) (k : Nat) : (bl l).drop k = bl (l.drop k) := by unfold bl; rw [List.map_drop]
theorem bl_rev (l : List Nat) : (bl l).reverse = bl l.reverse := by unfold bl; rw [List.map_reverse]
theorem bl_set (l : List Nat) (k b : Nat) : (bl l).set k (.int (b : Int)) = bl (l.set k b) := by unfold bl; rw [List.map_set]
theorem b_appendN {c : Cx} {A : Around} {σ σ' : Led} {a : Addr} {l : List Nat} {b : Nat} {Q : AV → Led → Prop} (U : Up a (.lst (bl l)) (.lst (bl (l ++ [b]))) σ σ') (hl : l.length ≤ 1000000) (h : Q .none σ') : Call c A (.oth (.builtin "list.append")) [.ref a, .int (b : Int)] σ Q :=
  b_append (l := bl l) (by rw [bl_app]; exact U) (by rw [bl_len]; exact hl) h
theorem lo1_nat (b : Nat) : (lo1 b).toNat = b % 2 := by
  unfold lo1
  rcases Nat.mod_two_eq_zero_or_one b with h | h <;> rw [h] <;> rfl
theorem hi1_nat {b : Nat} (h : b < 4) : (hi1 b).toNat = b / 2 := by
  unfold hi1
  have : b / 2 = 0 ∨ b / 2 = 1 := by omega
  rcases this with h | h <;> rw [h] <;> rfl
theorem take_snoc {l : List Nat} {k b : Nat} (h : l[k]? = some b) : l.take (k + 1) = l.take k ++ [b] := by
  obtain ⟨h1, h2⟩ := List.getElem?_eq_some_iff.mp h
  rw [List.take_succ_eq_append_getElem h1, h2]
theorem enc_step {p : Nat → Bool} {l : List Nat} {k b : Nat} (h : l[k]? = some b) : enc p (l.take (k + 1)) = enc p (l.take k) + (p b).toNat * 2 ^ k := by
  obtain ⟨h1, h2⟩ := List.getElem?_eq_some_iff.mp h
  rw [take_snoc h, enc_snoc, List.length_take, Nat.min_eq_left (Nat.le_of_lt h1)]
theorem all_app {l : List Nat} {m b : Nat} (h : ∀ n ∈ l, n < m) (hb : b < m) : ∀ n ∈ l ++ [b], n < m := fun n hn => by
  rcases List.mem_append.mp hn with hn | hn
  · exact h n hn
  · rw [List.mem_singleton.mp hn]; exact hb
structure RowOk (row : List Nat) : Prop where
  len : row.length ≤ 2000
  lt : ∀ n ∈ row, n < 1024
end
section
set_option maxRecDepth 20000
variable {c : Cx} {A : Around} {σ : Led} {K : Frag}
theorem c_next (G : Ps c K) (R : Rm A 1) {ρ : Led} {ra : Addr} {row : List Nat} (ok : RowOk row) {Q : AV → Led → Prop} (h : ∀ n row', n < 1024 → RowOk row' → Q (.int ((n : Nat) : Int)) ((ra, .lst (bl row')) :: ρ)) : Call c A (.ref 754) [.ref ra] ((ra, .lst (bl row)) :: ρ) Q := by
  refine call_fn (k := 0) G.toGd G.f__law_next.2 ok__law_next rfl R.room fun L env F => ?_
  simp only [initV, noneV]
  have R' := R.deeper (env := env)
  refine x_cons ?_
  wtm_at "Mgo"
  refine ⟨by decide, fun r => ?_⟩
  refine o_nei (ns := row.map Int.ofNat) (ms := []) (by have := R'.un; show _ < 9900; omega) (by rw [← bl_il]; wtm_at "Mmem") (.head _) ?_
  refine tv_bool (fun hb => ?_) (fun hb => ?_)
  · have hne : row ≠ [] := by
      intro e; subst e
      simp at hb
    obtain ⟨row', n, rfl⟩ : ∃ row' n, row = row' ++ [n] := ⟨_, _, (List.dropLast_concat_getLast hne).symm⟩
    rw [← bl_app]
    wtm_at "Mgo"
    refine b_pop (by wtm_at "Mup") (by rw [bl_len]; have := ok.len; simp at this; omega) ?_
    exact ⟨(ra, .lst (bl row')) :: ρ, by wtm_at "Msb", h n row' (ok.lt n (by simp)) ⟨by have := ok.len; simp at this; omega, fun m hm => ok.lt m (by simp [hm])⟩⟩
  · have hne : row = [] := by
      cases row with
      | nil => rfl
      | cons a r => simp at hb
    subst hne
    wtm_at "Mgo"
    exact ⟨(ra, .lst (bl [])) :: ρ, by wtm_at "Msb", h 0 [] (by decide) ok⟩
theorem c_row (G : Ps c K) (R : Rm A 1) {s : Addr} {ns : List Int} (hs : BL c s (il ns)) (hl : ns.length ≤ 1000) {Q : AV → Led → Prop} (h : ∀ r row, RowOk row → Q (.ref r) ((r, .lst (bl row)) :: σ)) : Call c A (.ref 747) [.ref s] σ Q := by
  refine call_fn (k := 4) G.toGd G.f__law_row.2 ok__law_row rfl R.room fun L env F0 => ?_
  simp only [initV, noneV]
  have R' := R.deeper (env := env)
  refine x_cons ?_
  wtm_at "Mgo"
  refine ⟨by decide, fun ra => ?_⟩
  with_reducible wtm_at "Mstep"
  with_reducible wtm_at "Mstep"
  refine x_for ?_
  refine e_uptoB ?_
  wtm_at "Mgo"
  refine ⟨s, il ns, 40, rfl, hs, rfl, by decide, by simp [il]; omega, fun cs => ?_⟩
  have hcl : ((il ns).take (40 : Int).toNat).length ≤ 40 := by rw [List.length_take]; exact Nat.min_le_left _ _
  refine fo_list (P := List Nat × List (Option AV)) (l := (il ns).take (40 : Int).toNat) (fun p ρ => (L, .ns nm__law_row (some (.ref s) :: some (.ref ra) :: p.2)) :: (ra, .lst (bl p.1)) :: ρ)
    (fun i p => (∃ j1 j2 j3, p.2 = [j1, j2, j3]) ∧ p.1.length ≤ 31 * i ∧ ∀ n ∈ p.1, n < 1024) ((cs, .lst ((il ns).take (40 : Int).toNat)) :: σ) ([], [none, none, none]) R'.hd (fun p ρ => by simp) (by wtm_at "Msb") (fun p => by wtm_at "Mmem") ⟨⟨_, _, _, rfl⟩, Nat.le_refl _, fun n hn => by cases hn⟩ ?_ ?_
  · intro i v p ρ' hv hinv hρ hsb_
    obtain ⟨row, js⟩ := p
    obtain ⟨⟨j1, j2, j3, e⟩, h1, h2⟩ := hinv
    dsimp only at e h1 h2 ⊢
    subst e
    have hi : i < 40 := Nat.lt_of_lt_of_le (List.getElem?_eq_some_iff.mp hv).1 hcl
    obtain ⟨z, rfl⟩ : ∃ z : Int, v = .int z := by
      have := List.mem_of_mem_take (List.mem_of_getElem? hv)
      obtain ⟨z, _, e⟩ := List.mem_map.mp this
      exact ⟨z, e.symm⟩
    obtain ⟨m, hm⟩ : ∃ m : Nat, (m : Int) = if 0 ≤ z then z else 7 - z := ⟨(if 0 ≤ z then z else 7 - z).toNat, by split <;> omega⟩
    with_reducible wtm_at "Mstep"
    with_reducible wtm_at "Mstep"
    with_reducible wtm_at "Mstep"
    refine x_assign (e_cutv (w := .int (m : Int)) ?_ ?_)
    · wtm_at "Mgo"
      refine tv_dec (fun q => ?_) (fun q => ?_)
      · wtm_at "Mgo"
        exact ⟨by rw [hm, if_pos q], rfl⟩
      · wtm_at "Mgo"
        exact ⟨by rw [hm, if_neg q], rfl⟩
    · wtm_at "Mgo"
      refine o_modL 1024 rfl (by decide) ?_
      wtm_at "Mgo"
      refine b_appendN (by wtm_at "Mup") (by omega) ?_
      wtm_at "Mgo"
      refine o_divL 1024 rfl (by decide) (by decide) ?_
      wtm_at "Mgo"
      intro rg
      refine fo_rng (x := 0) (y := 30) (P := List Nat × Nat × Option AV) (fun p ρ => (L, .ns nm__law_row [some (.ref s), some (.ref ra), some (.int z), some (.int (p.2.1 : Int)), p.2.2]) :: (ra, .lst (bl p.1)) :: ρ)
        (fun k p => p.1.length ≤ 31 * i + 1 + k ∧ ∀ n ∈ p.1, n < 1024) ρ' (row ++ [m % 1024], m / 1024, j3) R'.hd (by decide) (fun p ρ => by simp) (by wtm_at "Msb") ⟨by simp; omega, all_app h2 (Nat.mod_lt _ (by decide))⟩ ?_ ?_
      · intro k p ρ2 hk hinv hρ2 hsb_
        obtain ⟨row2, m2, j⟩ := p
        obtain ⟨g1, g2⟩ := hinv
        dsimp only at g1 g2 ⊢
        wtm_at "Mgo"
        refine tv_dec (fun q => ?_) (fun q => ?_)
        · wtm_at "Mgo"
          refine o_modL 1024 rfl (by decide) ?_
          wtm_at "Mgo"
          refine b_appendN (by wtm_at "Mup") (by omega) ?_
          wtm_at "Mgo"
          refine o_divL 1024 rfl (by decide) (by decide) ?_
          wtm_at "Mgo"
          exact ⟨(row2 ++ [m2 % 1024], m2 / 1024, _), ⟨by simp; omega, all_app g2 (Nat.mod_lt _ (by decide))⟩, Sb.same⟩
        · wtm_at "Mgo"
          exact ⟨(row2, m2, _), ⟨by dsimp only; omega, g2⟩, Sb.same⟩
      · rintro ⟨row2, m2, j⟩ ⟨g1, g2⟩
        dsimp only at g1 g2 ⊢
        have g3 : row2.length ≤ 31 * i + 1 + 30 := g1
        wtm_at "Mgo"
        exact ⟨(row2, _), ⟨⟨_, _, _, rfl⟩, by show row2.length ≤ _; omega, g2⟩, Sb.same⟩
  · rintro ⟨row, js⟩ ⟨⟨j1, j2, j3, e⟩, h1, h2⟩
    dsimp only at e h1 h2 ⊢
    subst e
    have h3 : row.length ≤ 31 * 40 := Nat.le_trans h1 (Nat.mul_le_mul_left _ hcl)
    wtm_at "Mgo"
    refine ⟨ra, bl row, 160, rfl, by wtm_at "Mmem", rfl, by decide, by rw [bl_len]; omega, fun r2 => ?_⟩
    rw [bl_take]
    wtm_at "Mgo"
    refine b_reverse (by rw [bl_rev]; wtm_at "Mup") (by rw [bl_len, List.length_take]; omega) ?_
    wtm_at "Mgo"
    exact ⟨(r2, .lst (bl (row.take (160 : Int).toNat).reverse)) :: σ, by wtm_at "Msb", h r2 _ ⟨by rw [List.length_reverse, List.length_take]; omega, fun n hn => h2 n (List.mem_of_mem_take (List.mem_reverse.mp hn))⟩⟩
theorem c_bits (G : Ps c K) (R : Rm A 2) {ρ : Led} {ra : Addr} {row : List Nat} {wide : Nat} (ok : RowOk row) (hw : wide ≤ 60) {Q : AV → Led → Prop} (h : ∀ r bits row', Bits bits → bits.length = wide → RowOk row' → Q (.ref r) ((r, .lst (bl bits)) :: (ra, .lst (bl row')) :: ρ)) : Call c A (.ref 761) [.ref ra, .int (wide : Int)] ((ra, .lst (bl row)) :: ρ) Q := by
  refine call_fn (k := 4) G.toGd G.f__law_bits.2 ok__law_bits rfl R.room fun L env F0 => ?_
  simp only [initV, noneV]
  have R' := R.deeper (env := env)
  refine x_cons ?_
  wtm_at "Mgo"
  refine ⟨by decide, fun ba => ?_⟩
  wtm_at "Mgo"
  rw [show (wide : Int) + 4 = ((wide + 4 : Nat) : Int) by push_cast; rfl]
  refine o_divL 5 rfl (by decide) (by decide) ?_
  wtm_at "Mgo"
  intro rg
  refine fo_rng (x := 0) (y := (((wide + 4) / 5 : Nat) : Int)) (P := List Nat × List Nat × List (Option AV)) (fun p ρ => (L, .ns nm__law_bits (some (.ref ra) :: some (.int (wide : Int)) :: some (.ref ba) :: p.2.2)) :: (ba, .lst (bl p.1)) :: (ra, .lst (bl p.2.1)) :: ρ)
    (fun k p => (∃ j1 j2 j3, p.2.2 = [j1, j2, j3]) ∧ p.1.length = 5 * k ∧ Bits p.1 ∧ RowOk p.2.1) ρ ([], row, [none, none, none]) R'.hd (by omega) (fun p ρ => by simp) (by wtm_at "Msb") ⟨⟨_, _, _, rfl⟩, rfl, (fun b hb => by cases hb), ok⟩ ?_ ?_
  · intro k p ρ' hk hinv hρ hsb_
    obtain ⟨bits, row, js⟩ := p
    obtain ⟨⟨j1, j2, j3, e⟩, h1, h2, h3⟩ := hinv
    dsimp only at e h1 h2 h3 ⊢
    subst e
    wtm_at "Mgo"
    refine Call.sb (σ' := (ra, .lst (bl row)) :: _) (by wtm_at "Msb") ?_
    refine c_next G (R'.less (by decide)) h3 fun n row' hn hr => ?_
    wtm_at "Mgo"
    intro rg2
    refine fo_rng (x := 0) (y := 5) (P := List Nat × Nat × Option AV) (fun p ρ => (L, .ns nm__law_bits [some (AV.ref ra), some (AV.int (wide : Int)), some (AV.ref ba), some (AV.int (0 + (k : Int))), some (AV.int (p.2.1 : Int)), p.2.2]) :: (ba, .lst (bl p.1)) :: ρ)
      (fun i p => p.1.length = 5 * k + i ∧ Bits p.1) ((ra, .lst (bl row')) :: ρ') (bits, n, j3) R'.hd (by decide) (fun p ρ => by simp) (by wtm_at "Msb") ⟨h1, h2⟩ ?_ ?_
    · intro i p ρ2 hi hinv hρ2 hsb_
      obtain ⟨bits2, m2, j⟩ := p
      obtain ⟨g1, g2⟩ := hinv
      dsimp only at g1 g2 ⊢
      wtm_at "Mgo"
      refine o_modL 4 rfl (by decide) ?_
      wtm_at "Mgo"
      refine b_appendN (by wtm_at "Mup") (by omega) ?_
      wtm_at "Mgo"
      refine o_divL 4 rfl (by decide) (by decide) ?_
      wtm_at "Mgo"
      exact ⟨(bits2 ++ [m2 % 4], m2 / 4, _), ⟨by simp; omega, all_app g2 (Nat.mod_lt _ (by decide))⟩, Sb.same⟩
    · rintro ⟨bits2, m2, j⟩ ⟨g1, g2⟩
      dsimp only at g1 g2 ⊢
      have g3 : bits2.length = 5 * k + 5 := g1
      wtm_at "Mgo"
      refine' ⟨(bits2, row', _), ⟨⟨_, _, _, rfl⟩, by show bits2.length = _; omega, g2, hr⟩, ?sb⟩
      case sb =>
        show Sb ((L, .ns _ _) :: (ba, _) :: (ra, _) :: ρ') _
        wtm_at "Msb"
  · rintro ⟨bits, row, js⟩ ⟨⟨j1, j2, j3, e⟩, h1, h2, h3⟩
    dsimp only at e h1 h2 h3 ⊢
    subst e
    have h4 : bits.length = 5 * ((wide + 4) / 5) := by rw [h1]; congr 1
    wtm_at "Mgo"
    refine ⟨ba, bl bits, wide, rfl, by wtm_at "Mmem", rfl, by omega, by rw [bl_len]; omega, fun r2 => ?_⟩
    rw [bl_take, Int.toNat_natCast]
    exact ⟨(r2, .lst (bl (bits.take wide))) :: (ra, .lst (bl row)) :: ρ, by wtm_at "Msb", h r2 _ row (fun b hb => h2 b (List.mem_of_mem_take hb)) (by rw [List.length_take]; omega) h3⟩
theorem c_made (G : Ps c K) (R : Rm A 1) {b : Addr} {bits : List Nat} (m : (b, .lst (bl bits)) ∈ σ) (hb : Bits bits) (hl : bits.length ≤ 60) {Q : AV → Led → Prop} (h : ∀ r, Q (.ref r) ((r, .tup (tv bits)) :: σ)) : Call c A (.ref 768) [.ref b] σ Q := by
  refine call_fn (k := 3) G.toGd G.f__law_made.2 ok__law_made rfl R.room fun L env F0 => ?_
  simp only [initV, noneV]
  have R' := R.deeper (env := env)
  have hl2 : (bl bits).length ≤ 60 := by rw [bl_len]; exact hl
  refine x_cons ?_
  wtm_at "Mgo"
  intro rg
  refine fo_rng (x := 0) (y := ((bl bits).length : Int)) (P := Int × Int × Option AV) (fun p ρ => (L, .ns nm__law_made [some (.ref b), some (.int p.1), some (.int p.2.1), p.2.2]) :: ρ)
    (fun i p => p.1 = (enc lo1 (bits.take i) : Int) ∧ p.2.1 = (enc hi1 (bits.take i) : Int)) σ (0, 0, none) R'.hd (by omega) (fun p ρ => by simp) (by wtm_at "Msb") ⟨rfl, rfl⟩ ?_ ?_
  · intro i p ρ' hi hinv hρ hsb_
    obtain ⟨low, high, j⟩ := p
    obtain ⟨g1, g2⟩ := hinv
    rw [bl_len] at hi
    dsimp only at g1 g2 ⊢
    subst g1 g2
    obtain ⟨x, hx⟩ : ∃ x, bits[i]? = some x := ⟨_, List.getElem?_eq_getElem (by omega)⟩
    have hx4 := hb x (List.mem_of_getElem? hx)
    have m' := hρ _ m
    simp only [Int.zero_add]
    wtm_at "Mgo"
    refine u_list (by wtm_at "Mmem") (by omega) (by omega) (by rw [Int.toNat_natCast]; exact bl_get hx) ?_
    wtm_at "Mgo"
    refine o_modL 2 rfl (by decide) ?_
    wtm_at "Mgo"
    refine o_powL (by omega) ?_
    refine o_mulN (by omega) ?_
    wtm_at "Mgo"
    refine u_list (by wtm_at "Mmem") (by omega) (by omega) (by rw [Int.toNat_natCast]; exact bl_get hx) ?_
    wtm_at "Mgo"
    refine o_divL 2 rfl (by decide) (by decide) ?_
    wtm_at "Mgo"
    refine o_powL (by omega) ?_
    refine o_mulN (by omega) ?_
    wtm_at "Mgo"
    refine ⟨(_, _, _), ⟨?_, ?_⟩, Sb.same⟩
    · show (_ : Int) = _
      rw [enc_step hx, lo1_nat]; push_cast; rfl
    · show (_ : Int) = _
      rw [enc_step hx, hi1_nat hx4]; push_cast; rfl
  · rintro ⟨low, high, j⟩ ⟨g1, g2⟩
    have e : (((bl bits).length : Int) - 0).toNat = bits.length := by rw [bl_len]; omega
    dsimp only at g1 g2 ⊢
    rw [e, List.take_of_length_le (Nat.le_refl _)] at g1 g2
    subst g1 g2
    wtm_at "Mgo"
    refine ⟨by simp, fun r => ⟨(r, .tup (tv bits)) :: σ, ?_, h r⟩⟩
    rw [bl_len]
    unfold tv
    wtm_at "Msb"
theorem c_const (G : Ps c K) (R : Rm A 2) {b : Addr} {bits : List Nat} (m : (b, .lst (bl bits)) ∈ σ) (hb : Bits bits) (hl : bits.length ≤ 60) {Q : AV → Led → Prop} (h : ∀ r, Q (.ref r) ((r, .tup (cvL bits)) :: σ)) : Call c A (.ref 775) [.ref b] σ Q := by
  refine call_fn (k := 3) G.toGd G.f__law_const.2 ok__law_const rfl R.room fun L env F0 => ?_
  simp only [initV, noneV]
  have R' := R.deeper (env := env)
  refine x_cons ?_
  wtm_at "Mgo"
  refine c_made G R' (bits := bits) (by wtm_at "Mmem") hb hl fun r => ?_
  unfold tv
  wtm_at "Mgo"
  refine ⟨by simp, fun r => ⟨(r, .tup (cvL bits)) :: σ, ?_, h r⟩⟩
  unfold cvL
  wtm_at "Msb"
theorem c_whole (G : Ps c K) (R : Rm A 1) {b : Addr} {bits : List Nat} {sg : Bool} (m : (b, .lst (bl bits)) ∈ σ) (am : Am bits) {Q : AV → Led → Prop} (h : Q (ovI (whole bits sg)) σ) : Call c A (.ref 782) [.ref b, .bool sg] σ Q := by
  refine call_fn (k := 2) G.toGd G.f__law_whole.2 ok__law_whole rfl R.room fun L env F0 => ?_
  simp only [initV, noneV]
  have R' := R.deeper (env := env)
  have hl := am.hi
  have hl2 : (bl bits).length ≤ 5 := by rw [bl_len]; exact hl
  refine x_cons ?_
  wtm_at "Mgo"
  intro rg
  refine fo_rng (x := 0) (y := ((bl bits).length : Int)) (P := Int × Option AV) (fun p ρ => (L, .ns nm__law_whole [some (.ref b), some (.bool sg), some (.int p.1), p.2]) :: ρ)
    (fun i p => p.1 = (enc lo1 (bits.take i) : Int) ∧ (bits.take i).any (fun b => decide (1 < b)) = false) σ (0, none) R'.hd (by omega) (fun p ρ => by simp) (by wtm_at "Msb") ⟨rfl, rfl⟩ ?_ ?_
  · intro i p ρ' hi hinv hρ hsb_
    obtain ⟨fig, j⟩ := p
    obtain ⟨g1, g2⟩ := hinv
    rw [bl_len] at hi
    dsimp only at g1 g2 ⊢
    subst g1
    obtain ⟨x, hx⟩ : ∃ x, bits[i]? = some x := ⟨_, List.getElem?_eq_getElem (by omega)⟩
    have m' := hρ _ m
    simp only [Int.zero_add]
    wtm_at "Mgo"
    refine u_list (by wtm_at "Mmem") (by omega) (by omega) (by rw [Int.toNat_natCast]; exact bl_get hx) ?_
    wtm_at "Mgo"
    refine tv_dec (fun q => ?_) (fun q => ?_)
    · wtm_at "Mgo"
      have hn : whole bits sg = none := by
        unfold whole
        rw [if_pos (List.any_eq_true.mpr ⟨x, List.mem_of_getElem? hx, by simp; omega⟩)]
      rw [hn] at h
      exact ⟨σ, .skip hsb_, h⟩
    · wtm_at "Mgo"
      refine u_list (by wtm_at "Mmem") (by omega) (by omega) (by rw [Int.toNat_natCast]; exact bl_get hx) ?_
      wtm_at "Mgo"
      refine o_powL (by omega) ?_
      refine o_mulN (by omega) ?_
      wtm_at "Mgo"
      refine ⟨(_, _), ⟨?_, ?_⟩, Sb.same⟩
      · show (_ : Int) = _
        rw [enc_step hx, lo1_nat, Nat.mod_eq_of_lt (by omega)]; push_cast; rfl
      · rw [take_snoc hx, List.any_append, g2]
        simp; omega
  · rintro ⟨fig, j⟩ ⟨g1, g2⟩
    have e : (((bl bits).length : Int) - 0).toNat = bits.length := by rw [bl_len]; omega
    dsimp only at g1 g2 ⊢
    rw [e, List.take_of_length_le (Nat.le_refl _)] at g1 g2
    subst g1
    wtm_at "Mgo"
    have hne : bits ≠ [] := fun z => by have := am.lo; rw [z] at this; simp at this
    have hw : whole bits sg = some (if sg = true ∧ bits.getLast? = some 1 then (enc lo1 bits : Int) - 2 ^ bits.length else (enc lo1 bits : Int)) := by
      unfold whole
      rw [if_neg (by rw [g2]; decide)]
    obtain ⟨ini, x, hx⟩ : ∃ ini x, bits = ini ++ [x] := ⟨_, _, (List.dropLast_concat_getLast hne).symm⟩
    have hlast : bits.getLast? = some x := by rw [hx]; simp
    rw [hlast] at hw
    have mm : (b, MO.lst (bl ini ++ [AV.int (x : Int)])) ∈ σ := by rw [bl_app, ← hx]; exact m
    refine tv_bool (fun hs => ?_) (fun hs => ?_)
    · wtm_at "Mgo"
      refine u_last (by wtm_at "Mmem") ?_
      wtm_at "Mgo"
      refine tv_dec (fun q => ?_) (fun q => ?_)
      · have hx1 : x = 1 := by omega
        rw [hw, if_pos ⟨hs, by rw [hx1]⟩] at h
        wtm_at "Mgo"
        refine b_len (l := bl bits) (by wtm_at "Mmem") (by omega) ?_
        refine o_powL (by omega) ?_
        wtm_at "Mgo"
        refine ⟨σ, by wtm_at "Msb", ?_⟩
        have h' : Q (.int ((enc lo1 bits : Int) - 2 ^ bits.length)) σ := h
        rw [bl_len]
        push_cast
        exact h'
      · rw [hw, if_neg (fun z => q (by have := z.2; simp at this; omega))] at h
        wtm_at "Mgo"
        exact ⟨σ, by wtm_at "Msb", h⟩
    · rw [hw, if_neg (fun z => by rw [hs] at z; cases z.1)] at h
      wtm_at "Mgo"
      exact ⟨σ, by wtm_at "Msb", h⟩
end
section
set_option maxRecDepth 20000
section
variable {c : Cx} {A : Around} {env : Env} {L : Addr} {names : List (Str × NameKind)} {σ σ' : Led} {pos : Pos} {a b d C f r : Addr} {l l' : List AV} {K : Frag}
theorem swaps_true {elt : Expr} {gens : List Comprehension} {scope : Scope} {pos py : Pos} {y : Str} {line : Nat} (F : FrOk env L names) (k : KdAt names y .local) (hl : (py.line == pos.line) = true) (hn : (scope.names.any fun x => x.1 == y && (x.2 == NameKind.local || x.2 == NameKind.cell)) = false) : swapsWith (.ListComp elt gens scope pos) (some (.Name y py)) line env = pure true := by
  have hb : env.blockKind = .function := by unfold Env.blockKind; rw [F.kind]; rfl
  show (pure (env.blockKind == .function && env.kindOf y == some .local && py.line == pos.line && !(scope.names.any fun x => x.1 == y && (x.2 == NameKind.local || x.2 == NameKind.cell))) : Sem Bool) = pure true
  rw [hb, F.kd k, hl, hn]
  rfl
theorem X.sb {t : Sem Flow} {N B C : Led → Prop} {R : AV → Led → Prop} (hs : Sb σ' σ) (h : X c A t σ' N B C R) : X c A t σ N B C R := W.weak h fun _ H => H.sb hs
theorem E.sb {e : Expr} {Q : AV → Led → Prop} (hs : Sb σ' σ) (h : E c A env e σ' Q) : E c A env e σ Q := W.weak h fun _ H => H.sb hs
theorem cp_plain {scope : Scope} {nm : List (Str × NameKind)} {x : Str} (hn : scope.names = nm) (hk : scope.kind = .function) (hf : ∀ y ∈ nm, y.2 ≠ .free) (hc : ∀ y ∈ nm, y.2 ≠ .cell) (hl : ∀ y ∈ nm, y.2 = .local → nm.lookup y.1 = some .local) (hx : nm.lookup x = some .local) (nd : (nm.map (·.1)).Nodup) (dbg : ∀ p ∈ nm, (p.1 == ("__debug__" : Str)) = false) : CpOk env scope [] nm x where
  clos := closureFor_none (by rw [hn]; exact hf)
  cell := by rw [hn]; exact hc
  kind := hk
  loc := by rw [hn]; exact hl
  hx := by rw [hn]; exact hx
  nms := by
    unfold relabel
    dsimp only
    rw [hn]
    exact map_eq_self fun y hy => by
      obtain ⟨n, k⟩ := y
      have : (k == NameKind.free) = false := by simpa using hf _ hy
      simp only [this, Bool.false_and, Bool.false_eq_true, if_false]
  nd := nd
  dbg := dbg
end
noncomputable abbrev nm_c (x : String) : List (Str × NameKind) := [lc ".0", lc x]
theorem cp_one {env : Env} {scope : Scope} {x : String} (hn : scope.names = nm_c x) (hk : scope.kind = .function) (h0 : ((nm_c x).map (·.1)).Nodup) (hd : ∀ p ∈ nm_c x, (p.1 == ("__debug__" : Str)) = false) (hl : ∀ y ∈ nm_c x, y.2 = .local → (nm_c x).lookup y.1 = some .local) : CpOk env scope [] (nm_c x) (Str.ofString x) :=
  cp_plain hn hk (by simp [nm_c]) (by simp [nm_c]) hl (hl _ (.tail _ (.head _)) rfl) h0 hd
noncomputable def WhP (σ : Led) (q : Addr) : Wh → Prop
  | .at lo => (q, MO.tup [.str (Str.ofString "at"), .int lo, .none, .int 0, .int 1]) ∈ σ
  | .pick b sg base step => ∃ am ba, (q, MO.tup [.str (Str.ofString "pick"), .int 0, .ref am, .int base, .int step]) ∈ σ ∧ (am, MO.tup [.ref ba, .bool sg]) ∈ σ ∧ (ba, MO.lst (bl b)) ∈ σ
noncomputable def WordP (σ : Led) (wv : AV) : Option (List Nat × Bool) → Prop
  | none => wv = .none
  | some (b, sg) => ∃ am ba, wv = .ref am ∧ (am, MO.tup [.ref ba, .bool sg]) ∈ σ ∧ (ba, MO.lst (bl b)) ∈ σ
noncomputable def PtAt (σ : Led) (v : AV) (p : Pt) : Prop := ∃ pp q wv, v = .ref pp ∧ (pp, MO.tup [.str (kindS p.loc), .int (p.w : Int), .int (p.ref : Int), wv, .ref q]) ∈ σ ∧ WhP σ q p.wh ∧ WordP σ wv p.word
theorem WhP.mono {σ σ' : Led} {q : Addr} (hs : ∀ p ∈ σ, p ∈ σ') : ∀ {wh : Wh}, WhP σ q wh → WhP σ' q wh
  | .at lo, h => hs _ h
  | .pick .., ⟨am, ba, h1, h2, h3⟩ => ⟨am, ba, hs _ h1, hs _ h2, hs _ h3⟩
theorem WordP.mono {σ σ' : Led} {wv : AV} (hs : ∀ p ∈ σ, p ∈ σ') : ∀ {w : Option (List Nat × Bool)}, WordP σ wv w → WordP σ' wv w
  | none, h => h
  | some (b, sg), ⟨wq, ca, h1, h2, h3⟩ => ⟨wq, ca, h1, hs _ h2, hs _ h3⟩
theorem PtAt.mono {σ σ' : Led} (hs : ∀ p ∈ σ, p ∈ σ') {v : AV} {p : Pt} (h : PtAt σ v p) : PtAt σ' v p := by
  obtain ⟨pp, q, wv, a, b, c, d⟩ := h
  exact ⟨pp, q, wv, a, hs _ b, c.mono hs, d.mono hs⟩
end
section
set_option maxRecDepth 20000
variable {c : Cx} {A : Around} {σ : Led} {K : Frag}
theorem c_amount (G : Ps c K) (R : Rm A 3) {ρ : Led} {ra : Addr} {row : List Nat} (ok : RowOk row) {Q : AV → Led → Prop} (h : ∀ r b bits sg row', Am bits → RowOk row' → Q (.ref r) ((r, .tup [.ref b, .bool sg]) :: (b, .lst (bl bits)) :: (ra, .lst (bl row')) :: ρ)) : Call c A (.ref 787) [.ref ra] ((ra, .lst (bl row)) :: ρ) Q := by
  refine call_fn (k := 1) G.toGd G.f__law_amount.2 ok__law_amount rfl R.room fun L env F0 => ?_
  simp only [initV, noneV]
  have R' := R.deeper (env := env)
  refine x_cons ?_
  wtm_at "Mgo"
  refine Call.sb (σ' := (ra, .lst (bl row)) :: _) (by wtm_at "Msb") ?_
  refine c_next G (R'.less (by decide)) ok fun n row1 hn hr1 => ?_
  wtm_at "Mgo"
  refine o_modL 5 rfl (by decide) ?_
  wtm_at "Mgo"
  rw [show (1 : Int) + ((n % 5 : Nat) : Int) = ((1 + n % 5 : Nat) : Int) by push_cast; rfl]
  refine c_bits G R' hr1 (by omega) fun b bits row2 hb hbl hr2 => ?_
  wtm_at "Mgo"
  refine Call.sb (σ' := (ra, .lst (bl row2)) :: _) (by wtm_at "Msb") ?_
  refine c_next G (R'.less (by decide)) hr2 fun n2 row3 hn2 hr3 => ?_
  wtm_at "Mgo"
  refine o_modL 5 rfl (by decide) ?_
  wtm_at "Mgo"
  have am0 : Am bits := ⟨hb, by omega, by omega⟩
  refine tvx_cut (M := fun σ1 => ∃ b2 bits2, Am bits2 ∧ Sb ((b2, .lst (bl bits2)) :: (ra, .lst (bl row3)) :: (L, .ns nm__law_amount [some (.ref ra), some (.ref b2)]) :: ρ) σ1) ?_ ?_
  · refine tv_dec (fun q => ?_) (fun q => ?_)
    · wtm_at "Mgo"
      refine x_comp (cp_one rfl rfl (by decide) (by decide) (by decide)) (swaps_true F0 (by wtm_at "Mkd") rfl (by decide +kernel)) ?_
      wtm_at "Mgo"
      refine co_list (l := bl bits) (P := Unit) (fun _ ρ => (b, .lst (bl bits)) :: ρ) (fun i _ ys => ys = bl ((bits.take i).map (· % 2))) ((ra, .lst (bl row3)) :: (L, .ns nm__law_amount [some (.ref ra), some (.ref b)]) :: ρ) () (vx := fun v => [none, some v]) F0 (cp_one rfl rfl (by decide) (by decide) (by decide)) R'.hd (fun _ _ => rfl) (by wtm_at "Msb") (fun _ => .head _) rfl (fun v => .there .here) (by rw [bl_len]; omega) ?_ ?_
      · intro i v p ys ρ' C hv hyl hinv hρ hC Fc
        subst hinv
        obtain ⟨x, hx, rfl⟩ : ∃ x, bits[i]? = some x ∧ v = .int (x : Int) := by
          unfold bl at hv
          rw [List.getElem?_map, Option.map_eq_some_iff] at hv
          obtain ⟨x, h1, h2⟩ := hv
          exact ⟨x, h1, h2.symm⟩
        wtm_at "Mgo"
        refine o_modL 2 rfl (by decide) ?_
        refine ⟨(), ?_, Sb.same⟩
        rw [bl_app, take_snoc hx, List.map_append]
        rfl
      · intro p ys D C hyl hinv
        subst hinv
        rw [bl_len, List.take_of_length_le (Nat.le_refl _)]
        wtm_at "Mgo"
        refine ⟨_, (_, _), rfl, ?_⟩
        wtm_at "Mgo"
        refine ⟨D, bits.map (· % 2), ⟨fun y hy => ?_, by rw [List.length_map]; omega, by rw [List.length_map]; omega⟩, by wtm_at "Msb"⟩
        obtain ⟨z, _, rfl⟩ := List.mem_map.mp hy
        exact Nat.lt_of_lt_of_le (Nat.mod_lt _ (by decide)) (by decide)
    · wtm_at "Mgo"
      exact ⟨b, bits, am0, by wtm_at "Msb"⟩
  · rintro σ1 ⟨b2, bits2, am2, hsb⟩
    refine X.sb hsb ?_
    wtm_at "Mgo"
    refine Call.sb (σ' := (ra, .lst (bl row3)) :: _) (by wtm_at "Msb") ?_
    refine c_next G (R'.less (by decide)) hr3 fun n4 row4 hn4 hr4 => ?_
    wtm_at "Mgo"
    refine o_modL 2 rfl (by decide) ?_
    wtm_at "Mgo"
    refine ⟨by simp, fun r => ⟨_, ?_, h r b2 bits2 (decide (((n4 % 2 : Nat) : Int) = 1)) row4 am2 hr4⟩⟩
    wtm_at "Msb"
theorem c_part (G : Ps c K) (R : Rm A 4) {ρ : Led} {ra wa : Addr} {row ws : List Nat} (ok : RowOk row) (mw : (wa, .lst (bl ws)) ∈ ρ) (hws : ws.length = 7) (hlo : ∀ k, k < 7 → 1 ≤ ws.getD k 0 ∧ ws.getD k 0 ≤ 6) {Q : AV → Led → Prop} (h : ∀ v p nw row', Pt.Ok p → PtAt nw v p → RowOk row' → Q v (nw ++ ((ra, .lst (bl row')) :: ρ))) : Call c A (.ref 794) [.ref ra, .ref wa] ((ra, .lst (bl row)) :: ρ) Q := by
  refine call_fn (k := 8) G.toGd G.f__law_part.2 ok__law_part rfl R.room fun L env F0 => ?_
  simp only [initV, noneV]
  have R' := R.deeper (env := env)
  refine x_cons ?_
  wtm_at "Mgo"
  refine Call.sb (σ' := (ra, .lst (bl row)) :: _) (by wtm_at "Msb") ?_
  refine c_next G (R'.less (by decide)) ok fun n row1 hn hr1 => ?_
  wtm_at "Mgo"
  refine o_modL 7 rfl (by decide) ?_
  generalize hpk : n % 7 = pick
  have hpl : pick < 7 := by rw [← hpk]; exact Nat.mod_lt _ (by decide)
  with_reducible wtm_at "Mstep"
  with_reducible wtm_at "Mstep"
  refine x_assign (e_cutv (w := .str (kindS (decide (4 < pick)))) ?_ ?_)
  · wtm_at "Mgo"
    refine tv_dec (fun q => ?_) (fun q => ?_)
    · wtm_at "Mgo"
      exact ⟨by rw [decide_eq_true (by omega)]; rfl, rfl⟩
    · wtm_at "Mgo"
      exact ⟨by rw [decide_eq_false (by omega)]; rfl, rfl⟩
  with_reducible wtm_at "Mstep"
  with_reducible wtm_at "Mstep"
  refine x_assign (e_cutv (w := .int ((if 4 < pick then pick - 5 else pick : Nat) : Int)) ?_ ?_)
  · wtm_at "Mgo"
    refine tv_dec (fun q => ?_) (fun q => ?_)
    · wtm_at "Mgo"
      exact ⟨by rw [if_pos (by omega)]; congr 1; omega, rfl⟩
    · wtm_at "Mgo"
      exact ⟨by rw [if_neg (by omega)], rfl⟩
  generalize hre : (if 4 < pick then pick - 5 else pick) = ref
  obtain ⟨tw, htw⟩ : ∃ tw, ws[pick]? = some tw := ⟨_, List.getElem?_eq_getElem (by omega)⟩
  have htl : 1 ≤ tw ∧ tw ≤ 6 := by
    have := hlo pick hpl
    rw [List.getD_eq_getElem?_getD, htw] at this
    exact this
  wtm_at "Mgo"
  refine u_list (by wtm_at "Mmem") (by omega) (by omega) (by rw [Int.toNat_natCast]; exact bl_get htw) ?_
  wtm_at "Mgo"
  refine tvx_cut (M := fun σ1 => ∃ wv word nw row', word.isSome = decide (pick = 4) ∧ (∀ b sg, word = some (b, sg) → Am b) ∧ WordP nw wv word ∧ RowOk row' ∧ Sb ((ra, .lst (bl row')) :: (L, .ns nm__law_part [some (.ref ra), some (.ref wa), some (.int (pick : Int)), some (.str (kindS (decide (4 < pick)))), some (.int (ref : Int)), some (.int (tw : Int)), some wv, none, none, none]) :: (nw ++ ρ)) σ1) ?_ ?_
  · refine tv_dec (fun q => ?_) (fun q => ?_)
    · wtm_at "Mgo"
      refine Call.sb (σ' := (ra, .lst (bl row1)) :: _) (by wtm_at "Msb") ?_
      refine c_amount G R' hr1 fun r b bits sg row2 am hr2 => ?_
      wtm_at "Mgo"
      refine ⟨.ref r, some (bits, sg), [(r, .tup [.ref b, .bool sg]), (b, .lst (bl bits))], row2, (decide_eq_true (by omega)).symm, (fun b' sg' e => by cases e; exact am), ⟨r, b, rfl, .head _, .tail _ (.head _)⟩, hr2, ?_⟩
      simp only [List.cons_append, List.nil_append]
      wtm_at "Msb"
    · wtm_at "Mgo"
      exact ⟨.none, none, [], row1, (decide_eq_false (by omega)).symm, (fun b' sg' e => by cases e), rfl, hr1, by simp only [List.nil_append]; wtm_at "Msb"⟩
  · rintro σ1 ⟨wv, word, nw, row2, hw1, hw2, hw3, hr2, hsb⟩
    refine X.sb hsb ?_
    wtm_at "Mgo"
    have pok : ∀ w wh, 1 ≤ w → w ≤ 6 → Wh.Ok wh → Pt.Ok ⟨decide (4 < pick), ref, w, word, wh⟩ := fun w wh h1 h2 h3 => by
      refine ⟨?_, h1, h2, ?_, hw2, h3⟩
      · show ref < if decide (4 < pick) = true then 2 else 5
        by_cases z : 4 < pick
        · rw [if_pos z] at hre; simp only [z, decide_true, if_true]; omega
        · rw [if_neg z] at hre; simp only [z, decide_false, Bool.false_eq_true, if_false]; omega
      · show word.isSome = (!decide (4 < pick) && ref == 4)
        rw [hw1]
        by_cases z : 4 < pick
        · have : pick ≠ 4 := by omega
          simp [z, this]
        · rw [if_neg z] at hre
          subst hre
          simp [z]
          rfl
    refine c_next G (R'.less (by decide)) hr2 fun n3 row3 hn3 hr3 => ?_
    wtm_at "Mgo"
    refine o_modL 4 rfl (by decide) ?_
    wtm_at "Mgo"
    refine tv_dec (fun q => ?_) (fun q => ?_)
    · wtm_at "Mgo"
      refine ⟨by simp, fun q1 => ?_⟩
      wtm_at "Mgo"
      refine ⟨by simp, fun pp => ?_⟩
      refine ⟨_, ?_, h (.ref pp) ⟨decide (4 < pick), ref, tw, word, .at 0⟩ ((pp, .tup [.str (kindS (decide (4 < pick))), .int (tw : Int), .int (ref : Int), wv, .ref q1]) :: (q1, .tup [.str (Str.ofString "at"), .int 0, .none, .int 0, .int 1]) :: nw) row3 (pok _ _ htl.1 htl.2 ⟨by decide, by decide⟩) ⟨pp, q1, wv, rfl, .head _, .tail _ (.head _), (hw3.mono (in_cons _)).mono (in_cons _)⟩ hr3⟩
      show Sb (_ :: _ :: (nw ++ _)) _
      wtm_at "Msb"
    · wtm_at "Mgo"
      refine Call.sb (σ' := (ra, .lst (bl row3)) :: _) (by wtm_at "Msb") ?_
      refine c_next G (R'.less (by decide)) hr3 fun n4 row4 hn4 hr4 => ?_
      wtm_at "Mgo"
      refine o_modL 4 rfl (by decide) ?_
      wtm_at "Mgo"
      rw [show (1 : Int) + ((n4 % 4 : Nat) : Int) = ((1 + n4 % 4 : Nat) : Int) by push_cast; rfl]
      refine tv_dec (fun q2 => ?_) (fun q2 => ?_)
      · wtm_at "Mgo"
        refine Call.sb (σ' := (ra, .lst (bl row4)) :: _) (by wtm_at "Msb") ?_
        refine c_next G (R'.less (by decide)) hr4 fun n5 row5 hn5 hr5 => ?_
        wtm_at "Mgo"
        refine o_modL 10 rfl (by decide) ?_
        wtm_at "Mgo"
        refine ⟨by simp, fun q1 => ?_⟩
        wtm_at "Mgo"
        refine ⟨by simp, fun pp => ?_⟩
        refine ⟨_, ?_, h (.ref pp) ⟨decide (4 < pick), ref, 1 + n4 % 4, word, .at (((n5 % 10 : Nat) : Int) - 3)⟩ ((pp, .tup [.str (kindS (decide (4 < pick))), .int ((1 + n4 % 4 : Nat) : Int), .int (ref : Int), wv, .ref q1]) :: (q1, .tup [.str (Str.ofString "at"), .int (((n5 % 10 : Nat) : Int) - 3), .none, .int 0, .int 1]) :: nw) row5 (pok _ _ (by omega) (by omega) ⟨by omega, by omega⟩) ⟨pp, q1, wv, rfl, .head _, .tail _ (.head _), (hw3.mono (in_cons _)).mono (in_cons _)⟩ hr5⟩
        show Sb (_ :: _ :: (nw ++ _)) _
        wtm_at "Msb"
      · wtm_at "Mgo"
        refine Call.sb (σ' := (ra, .lst (bl row4)) :: _) (by wtm_at "Msb") ?_
        refine c_next G (R'.less (by decide)) hr4 fun n5 row5 hn5 hr5 => ?_
        wtm_at "Mgo"
        refine o_modL 7 rfl (by decide) ?_
        wtm_at "Mgo"
        refine Call.sb (σ' := (ra, .lst (bl row5)) :: _) (by wtm_at "Msb") ?_
        refine c_amount G R' hr5 fun am b bits sg row6 hab hr6 => ?_
        wtm_at "Mgo"
        refine Call.sb (σ' := (ra, .lst (bl row6)) :: _) (by wtm_at "Msb") ?_
        refine c_next G (R'.less (by decide)) hr6 fun n7 row7 hn7 hr7 => ?_
        wtm_at "Mgo"
        refine o_modL 2 rfl (by decide) ?_
        wtm_at "Mgo"
        have done : ∀ (step : Int) (q1 pp : Addr), Q (.ref pp) ((pp, .tup [.str (kindS (decide (4 < pick))), .int ((1 + n4 % 4 : Nat) : Int), .int (ref : Int), wv, .ref q1]) :: (q1, .tup [.str (Str.ofString "pick"), .int 0, .ref am, .int (((n5 % 7 : Nat) : Int) - 3), .int step]) :: (am, .tup [.ref b, .bool sg]) :: (b, .lst (bl bits)) :: (nw ++ ((ra, .lst (bl row7)) :: ρ))) := fun step q1 pp =>
          h (.ref pp) ⟨decide (4 < pick), ref, 1 + n4 % 4, word, .pick bits sg (((n5 % 7 : Nat) : Int) - 3) step⟩ ((pp, .tup [.str (kindS (decide (4 < pick))), .int ((1 + n4 % 4 : Nat) : Int), .int (ref : Int), wv, .ref q1]) :: (q1, .tup [.str (Str.ofString "pick"), .int 0, .ref am, .int (((n5 % 7 : Nat) : Int) - 3), .int step]) :: (am, .tup [.ref b, .bool sg]) :: (b, .lst (bl bits)) :: nw) row7 (pok _ _ (by omega) (by omega) ⟨hab, by omega, by omega⟩)
            ⟨pp, q1, wv, rfl, .head _, ⟨am, b, .tail _ (.head _), .tail _ (.tail _ (.head _)), .tail _ (.tail _ (.tail _ (.head _)))⟩, (((hw3.mono (in_cons _)).mono (in_cons _)).mono (in_cons _)).mono (in_cons _)⟩ hr7
        refine tv_dec (fun q3 => ?_) (fun q3 => ?_)
        · wtm_at "Mgo"
          refine ⟨by simp, fun q1 => ?_⟩
          wtm_at "Mgo"
          refine ⟨by simp, fun pp => ?_⟩
          exact ⟨_, by wtm_at "Msb", done 1 q1 pp⟩
        · wtm_at "Mgo"
          refine ⟨by simp, fun q1 => ?_⟩
          wtm_at "Mgo"
          refine ⟨by simp, fun pp => ?_⟩
          exact ⟨_, by wtm_at "Msb", done (-1) q1 pp⟩
theorem c_low (G : Ps c K) (R : Rm A 2) {q : Addr} {wh : Wh} (m : WhP σ q wh) (ok : wh.Ok) {Q : AV → Led → Prop} (h : Q (ovI (lowOf wh)) σ) : Call c A (.ref 808) [.ref q] σ Q := by
  refine call_fn (k := 1) G.toGd G.f__law_low.2 ok__law_low rfl R.room fun L env F => ?_
  simp only [initV, noneV]
  have R' := R.deeper (env := env)
  cases wh with
  | «at» lo =>
    have m1 : (q, MO.tup [.str (Str.ofString "at"), .int lo, .none, .int 0, .int 1]) ∈ σ := m
    refine x_cons ?_
    wtm_at "Mgo"
    refine tv_true (by decide) ?_
    wtm_at "Mgo"
    exact ⟨σ, by wtm_at "Msb", h⟩
  | pick b sg base step =>
    obtain ⟨am, ba, m1, m2, m3⟩ := m
    obtain ⟨hab, b1, b2⟩ := ok
    refine x_cons ?_
    wtm_at "Mgo"
    refine tv_false (by decide) ?_
    wtm_at "Mgo"
    refine c_whole G R' (bits := b) (by wtm_at "Mmem") hab ?_
    wtm_at "Mgo"
    cases e : whole b sg with
    | none =>
      refine tv_true rfl ?_
      wtm_at "Mgo"
      have h' : Q .none σ := by simpa [lowOf, e, ovI] using h
      exact ⟨σ, by wtm_at "Msb", h'⟩
    | some i =>
      have bd := whole_bd e hab.hi
      refine tv_false rfl ?_
      simp only [ovI]
      wtm_at "Mgo"
      refine o_mul ?_ (by omega)
      have h' : Q (.int ((i - base) * step)) σ := by simpa [lowOf, e, ovI] using h
      exact ⟨σ, by wtm_at "Msb", h'⟩
theorem c_source (G : Ps c K) (R : Rm A 3) {v : AV} {p : Pt} (m : PtAt σ v p) (ok : p.Ok) {Q : AV → Led → Prop} (h : ∀ v nw, SrcAt nw v p → Q v (nw ++ σ)) : Call c A (.ref 801) [v] σ Q := by
  obtain ⟨pp, q, wv, rfl, m1, m2, m3⟩ := m
  refine call_fn (k := 6) G.toGd G.f__law_source.2 ok__law_source rfl R.room fun L env F => ?_
  simp only [initV, noneV]
  have R' := R.deeper (env := env)
  have tail : ∀ (nw : Led) (sp : Addr) (σ1 : Led), WhAt nw sp p.wh → Sb ((L, .ns nm__law_source [some (.ref pp), some (.str (kindS p.loc)), some (.int (p.w : Int)), some (.int (p.ref : Int)), some wv, some (.ref q), some (.ref sp)]) :: (nw ++ σ)) σ1 →
      X c (A.deeper env) (execs (List.drop 3 (fdBody (st 92))) env) σ1 (fun σ' => ∃ σ'', Sb σ'' σ' ∧ Q .none σ'') (fun _ => False) (fun _ => False) (fun v σ' => ∃ σ'', Sb σ'' σ' ∧ Q v σ'') := by
    intro nw sp σ1 hw hsb
    refine X.sb hsb ?_
    refine x_cons ?_
    wtm_at "Mgo"
    cases hwd : p.word with
    | none =>
      rw [hwd] at m3
      have e3 : wv = .none := m3
      subst e3
      refine tv_true rfl ?_
      wtm_at "Mgo"
      refine ⟨by simp, fun r => ?_⟩
      refine ⟨_, ?_, h (.ref r) ((r, .tup [.str (kindS p.loc), .int (p.w : Int), .int (p.ref : Int), .none, .ref sp]) :: nw) ⟨r, sp, .none, rfl, .head _, hw.mono (in_cons _), by rw [hwd]; rfl⟩⟩
      show Sb (_ :: (nw ++ σ)) _
      wtm_at "Msb"
    | some z =>
      obtain ⟨b, sg⟩ := z
      rw [hwd] at m3
      obtain ⟨am, ba, e3, a1, a2⟩ := m3
      subst e3
      have hab := ok.am b sg hwd
      have := hab.hi
      refine tv_false rfl ?_
      wtm_at "Mgo"
      refine c_const G R' (bits := b) (by wtm_at "Mmem") hab.bits (by omega) fun ca => ?_
      wtm_at "Mgo"
      refine ⟨by simp, fun wq => ?_⟩
      wtm_at "Mgo"
      refine ⟨by simp, fun r => ?_⟩
      refine ⟨_, ?_, h (.ref r) ((r, .tup [.str (kindS p.loc), .int (p.w : Int), .int (p.ref : Int), .ref wq, .ref sp]) :: (wq, .tup [.ref ca, .bool sg]) :: (ca, .tup (cvL b)) :: nw) ⟨r, sp, .ref wq, rfl, .head _, ((hw.mono (in_cons _)).mono (in_cons _)).mono (in_cons _), by rw [hwd]; exact ⟨wq, ca, rfl, .tail _ (.head _), .tail _ (.tail _ (.head _))⟩⟩⟩
      show Sb (_ :: _ :: _ :: (nw ++ σ)) _
      wtm_at "Msb"
  cases hwh : p.wh with
  | «at» lo =>
    rw [hwh] at m2 tail
    have m4 : (q, MO.tup [.str (Str.ofString "at"), .int lo, .none, .int 0, .int 1]) ∈ σ := m2
    refine x_cons ?_
    wtm_at "Mgo"
    refine ⟨by simp, fun sp => ?_⟩
    wtm_at "Mgo"
    refine tv_false (by decide) ?_
    with_reducible wtm_at "Mstep"
    exact tail [(sp, .tup [.str (Str.ofString "at"), .int lo])] sp _ (.head _) (by simp only [List.cons_append, List.nil_append]; wtm_at "Msb")
  | pick b sg base step =>
    rw [hwh] at m2 tail
    obtain ⟨am, ba, m4, m5, m6⟩ := m2
    have hab : Am b := by have := ok.wh; rw [hwh] at this; exact this.1
    have := hab.hi
    refine x_cons ?_
    wtm_at "Mgo"
    refine ⟨by simp, fun sp0 => ?_⟩
    wtm_at "Mgo"
    refine tv_true (by decide) ?_
    wtm_at "Mgo"
    refine c_const G R' (bits := b) (by wtm_at "Mmem") hab.bits (by omega) fun ca => ?_
    wtm_at "Mgo"
    refine ⟨by simp, fun sp => ?_⟩
    with_reducible wtm_at "Mstep"
    with_reducible wtm_at "Mstep"
    exact tail [(sp, .tup [.str (Str.ofString "pick"), .ref ca, .bool sg, .int base, .int step]), (ca, .tup (cvL b))] sp _ ⟨ca, .head _, .tail _ (.head _)⟩ (by simp only [List.cons_append, List.nil_append]; wtm_at "Msb")
end
section
set_option maxRecDepth 20000
noncomputable def zl (as : List Addr) (T : Tr) : Led := (as.zip T).map fun x => (x.1, MO.lst (bl x.2))
theorem zl_up : ∀ {as : List Addr} {T : Tr} {k : Nat} {a : Addr} {l : List Nat} (l' : List Nat), as[k]? = some a → T[k]? = some l → Up a (.lst (bl l)) (.lst (bl l')) (zl as T) (zl as (T.set k l'))
  | a :: as, l :: T, 0, _, _, l', h1, h2 => by
    cases h1; cases h2
    exact .here
  | a :: as, l :: T, k + 1, _, _, l', h1, h2 => .there (zl_up (as := as) (T := T) (k := k) l' (by simpa using h1) (by simpa using h2))
  | [], _, _, _, _, _, h1, _ => by simp at h1
  | _ :: _, [], _, _, _, _, _, h2 => by simp at h2
noncomputable def ad (as : List Addr) (k : Nat) : Addr := as.getD k 0
theorem ad_get {as : List Addr} {k : Nat} (h : k < as.length) : as[k]? = some (ad as k) := by
  unfold ad
  rw [List.getD_eq_getElem?_getD, List.getElem?_eq_getElem h]; rfl
theorem at_get {T : Tr} {k : Nat} (h : k < T.length) : T[k]? = some (at_ T k) := by
  unfold at_
  rw [List.getD_eq_getElem?_getD, List.getElem?_eq_getElem h]; rfl
theorem set_at {T : Tr} {k : Nat} : T.set k (at_ T k) = T := by
  by_cases h : k < T.length
  · refine List.ext_getElem? fun i => ?_
    by_cases q : i = k
    · subst q; rw [List.getElem?_set_self h, at_get h]
    · rw [List.getElem?_set_ne (Ne.symm q)]
  · rw [List.set_eq_of_length_le (by omega)]
noncomputable def stepPart (s : Tr × List Nat) (p : Pt) (piece : List Nat) : Tr × List Nat := match eff p with
  | none => s
  | some (pl, lo) =>
    let k := keyOf p.loc p.ref pl
    let l := put (at_ s.1 k) lo piece
    (s.1.set k l, if p.loc = false ∧ l ≠ at_ s.1 k ∧ p.ref ∉ s.2 then s.2 ++ [p.ref] else s.2)
noncomputable def runParts : Tr × List Nat → List Pt → List Nat → Tr × List Nat
  | s, [], _ => s
  | s, p :: ps, rest => runParts (stepPart s p (rest.drop (rest.length - p.w))) ps (rest.take (rest.length - p.w))
structure Tw (σ : Led) (as : List Addr) (ha wda sla : Addr) : Prop where
  len : as.length = 11
  held : ∃ hl : List AV, (ha, MO.lst hl) ∈ σ ∧ hl.length = 5 ∧ ∀ k, k < 5 → hl[k]? = some (AV.ref (ad as k))
  words : ∃ wd : List (Int × AV), (wda, MO.dct wd) ∈ σ ∧ ∀ j : Nat, j < 4 → dget wd ((j : Int) + 1) = some (AV.ref (ad as (5 + j)))
  slots : ∃ sl : List AV, (sla, MO.lst sl) ∈ σ ∧ sl.length = 2 ∧ ∀ i, i < 2 → sl[i]? = some (AV.ref (ad as (9 + i)))
theorem Tw.mono {σ σ' : Led} {as : List Addr} {ha wda sla : Addr} (h : Tw σ as ha wda sla) (hs : ∀ p ∈ σ, p ∈ σ') : Tw σ' as ha wda sla where
  len := h.len
  held := let ⟨a, b, c⟩ := h.held; ⟨a, hs _ b, c⟩
  words := let ⟨a, b, c⟩ := h.words; ⟨a, hs _ b, c⟩
  slots := let ⟨a, b, c⟩ := h.slots; ⟨a, hs _ b, c⟩
section
variable {c : Cx} {A : Around} {env : Env} {σ σ' : Led} {pos : Pos} {a : Addr}
theorem tve_cutv {e1 e2 : Expr} {b w : AV} {Q : AV → Led → Prop} (h : Tv c A b σ (fun σ1 => E c A env e1 σ1 fun v σ2 => v = w ∧ σ2 = σ) (fun σ1 => E c A env e2 σ1 fun v σ2 => v = w ∧ σ2 = σ)) (k : Q w σ) : Tv c A b σ (fun σ1 => E c A env e1 σ1 Q) (fun σ1 => E c A env e2 σ1 Q) :=
  fun v hv => W.mono (h v hv) fun b σ' hq => ⟨fun e => W.mono (hq.1 e) (fun v σ1 ⟨a, b⟩ => by subst a b; exact k), fun e => W.mono (hq.2 e) (fun v σ1 ⟨a, b⟩ => by subst a b; exact k)⟩
theorem si_listN {l : List Nat} {i : Int} {k b : Nat} {N : Led → Prop} (U : Up a (.lst (bl l)) (.lst (bl (l.set k b))) σ σ') (hi : i = k) (hk : k < l.length) (hl : l.length ≤ 1000) (h : N σ') : Si c A (.ref a) (.int i) (.int (b : Int)) σ N := by
  subst hi
  exact si_list (l := bl l) (by rw [Int.toNat_natCast, bl_set]; exact U) (by omega) (by rw [bl_len]; omega) (by omega) h
end
end
section
set_option maxRecDepth 20000
variable {c : Cx} {A : Around} {σ : Led} {K : Frag}
theorem c_write (G : Ps c K) (R : Rm A 4) {ρ : Led} {pa va ha wda sla : Addr} {as : List Addr} {T : Tr} {ws value : List Nat} {pvs : List AV} {ps : List Pt} (W : Tw ρ as ha wda sla) (O : TOk ws T) (hw : ∀ k, k < 11 → wk ws k ≤ 6) (mp : (pa, .lst pvs) ∈ ρ) (hpv : All2 (PtAt ρ) pvs ps) (hok : ∀ p ∈ ps, p.Ok) (mv : (va, .lst (bl value)) ∈ ρ) (hvb : Bits value) (hvl : value.length ≤ 60) (hsum : sumW ps ≤ value.length) (hps : ps.length ≤ 60) {Q : AV → Led → Prop}
    (h : ∀ r ns, ns.Perm ((runParts (T, []) ps value).2.map Int.ofNat) → ns.Pairwise (· ≤ ·) → Q (.ref r) ((r, .lst (il ns)) :: (zl as (runParts (T, []) ps value).1 ++ ρ))) :
    Call c A (.ref 815) [.ref pa, .ref va, .ref ha, .ref wda, .ref sla] (zl as T ++ ρ) Q := by
  refine call_fn (k := 14) G.toGd G.f__law_write.2 ok__law_write rfl R.room fun L env F0 => ?_
  simp only [initV, noneV]
  have R' := R.deeper (env := env)
  refine x_cons ?_
  wtm_at "Mgo"
  refine ⟨by decide, fun ch => ?_⟩
  wtm_at "Mgo"
  refine b_list (l := bl value) (by wtm_at "Mmem") (by rw [bl_len]; lia) fun re => ?_
  wtm_at "Mgo"
  refine fo_list (P := Tr × List Nat × Addr × List Nat × List (Option AV)) (l := pvs)
    (fun p ρ => (L, .ns nm__law_write (some (.ref pa) :: some (.ref va) :: some (.ref ha) :: some (.ref wda) :: some (.ref sla) :: some (.ref ch) :: some (.ref p.2.2.1) :: p.2.2.2.2)) :: (ch, .lst (bl p.2.1)) :: (p.2.2.1, .lst (bl p.2.2.2.1)) :: (zl as p.1 ++ ρ))
    (fun i p => (∃ j1 j2 j3 j4 j5 j6 j7 j8 j9 j10 j11 j12, p.2.2.2.2 = [j1, j2, j3, j4, j5, j6, j7, j8, j9, j10, j11, j12]) ∧ runParts (T, []) ps value = runParts (p.1, p.2.1) (ps.drop i) p.2.2.2.1 ∧ TOk ws p.1 ∧ p.2.1.length ≤ i ∧ sumW (ps.drop i) ≤ p.2.2.2.1.length ∧ p.2.2.2.1.length ≤ 60 ∧ Bits p.2.2.2.1)
    ρ (T, [], re, value, [none, none, none, none, none, none, none, none, none, none, none, none]) R'.hd (fun p ρ => by simp) (by wtm_at "Msb") (fun p => by wtm_at "Mmem") ⟨⟨_, _, _, _, _, _, _, _, _, _, _, _, rfl⟩, rfl, O, Nat.le_refl _, hsum, hvl, hvb⟩ ?_ ?_
  · intro i v p ρ' hv hinv hρ hsb_
    obtain ⟨Ti, chl, rea, rest, js⟩ := p
    obtain ⟨⟨j1, j2, j3, j4, j5, j6, j7, j8, j9, j10, j11, j12, e⟩, hrun, Oi, hcl, hsw, hrl, hrb⟩ := hinv
    dsimp only at e hrun Oi hcl hsw hrl hrb ⊢
    subst e
    obtain ⟨p, hp, S⟩ := hpv.get hv
    have pok := hok p (List.mem_of_getElem? hp)
    rw [drop_at hp] at hrun hsw
    have hwl : p.w + sumW (ps.drop (i + 1)) ≤ rest.length := by simpa [sumW] using hsw
    obtain ⟨pp, q, wv, ev, s1, s2, s3⟩ := S.mono hρ
    subst ev
    have W' := W.mono hρ
    have ip : i < ps.length := (List.getElem?_eq_some_iff.mp hp).1
    have hbl : (bl rest).length ≤ 60 := by rw [bl_len]; exact hrl
    wtm_at "Mgo"
    refine ⟨rea, bl rest, _, rfl, by wtm_at "Mmem", rfl, by rw [bl_len]; lia, by lia, by lia, fun pc => ?_⟩
    rw [bl_drop, show (((bl rest).length : Int) - (p.w : Int)).toNat = rest.length - p.w by rw [bl_len]; lia]
    generalize hpc : rest.drop (rest.length - p.w) = piece
    have hpl : piece.length = p.w := by rw [← hpc, List.length_drop]; lia
    have hpb : Bits piece := fun b hb => by rw [← hpc] at hb; exact hrb _ (List.mem_of_mem_drop hb)
    wtm_at "Mgo"
    refine ⟨rea, bl rest, _, rfl, by wtm_at "Mmem", rfl, by rw [bl_len]; lia, by lia, fun re2 => ?_⟩
    rw [bl_take, show (((bl rest).length : Int) - (p.w : Int)).toNat = rest.length - p.w by rw [bl_len]; lia]
    generalize hre2 : rest.take (rest.length - p.w) = rest2
    have hrl2 : rest2.length = rest.length - p.w := by rw [← hre2, List.length_take]; lia
    have hrb2 : Bits rest2 := fun b hb => by rw [← hre2] at hb; exact hrb _ (List.mem_of_mem_take hb)
    have hrun2 : runParts (T, []) ps value = runParts (stepPart (Ti, chl) p piece) (ps.drop (i + 1)) rest2 := by rw [hrun, runParts, hpc, hre2]
    clear hrun
    have hskip : eff p = none → runParts (T, []) ps value = runParts (Ti, chl) (ps.drop (i + 1)) rest2 := fun he => by rw [hrun2]; unfold stepPart; rw [he]
    wtm_at "Mgo"
    obtain ⟨hl, ml, hll, hld⟩ := W'.held
    obtain ⟨sl, msl, hsll, hsld⟩ := W'.slots
    have hrf := pok.ref
    refine tve_cutv (w := .ref (ad as (if p.loc then 9 + p.ref else p.ref))) ?_ ?_
    · cases hloc : p.loc with
      | true =>
        have hrf' : p.ref < 2 := by simpa [hloc] using hrf
        refine tv_true (by decide) ?_
        wtm_at "Mgo"
        refine u_list (by wtm_at "Mmem") (by lia) (by lia) (by rw [Int.toNat_natCast]; exact hsld _ hrf') ?_
        exact ⟨rfl, rfl⟩
      | false =>
        have hrf' : p.ref < 5 := by simpa [hloc] using hrf
        refine tv_false (by decide) ?_
        wtm_at "Mgo"
        refine u_list (by wtm_at "Mmem") (by lia) (by lia) (by rw [Int.toNat_natCast]; exact hld _ hrf') ?_
        exact ⟨rfl, rfl⟩
    wtm_at "Mgo"
    refine tvx_cut (M := fun σ1 => ∃ j9 pl, eff p = (lowOf p.wh).map (fun lo => (pl, lo)) ∧ (keyOf p.loc p.ref pl < 11 ∧ keyOf p.loc p.ref pl ≠ 4) ∧ σ1 = (re2, .lst (bl rest2)) :: (pc, .lst (bl piece)) :: (L, .ns nm__law_write
              [some (AV.ref pa), some (AV.ref va), some (AV.ref ha), some (AV.ref wda), some (AV.ref sla),
                some (AV.ref ch), some (AV.ref re2), some (AV.ref pp), some (AV.str (kindS p.loc)), some (AV.int ↑p.w),
                some (AV.int ↑p.ref), some wv, some (AV.ref q), some (AV.ref pc),
                some (AV.ref (ad as (keyOf p.loc p.ref pl))), j9, j10, j11, j12]) :: (ch, .lst (bl chl)) :: (rea, .lst (bl rest)) :: (zl as Ti ++ ρ')) ?_ ?_
    · cases hwd : p.word with
      | none =>
        rw [hwd] at s3
        have e3 : wv = .none := s3
        subst e3
        refine tv_false rfl ?_
        wtm_at "Mgo"
        refine ⟨j9, none, by unfold eff; rw [hwd], ?_, rfl⟩
        have := pok.word
        rw [hwd] at this
        cases hloc : p.loc with
        | true =>
          have hrf' : p.ref < 2 := by simpa [hloc] using hrf
          simp only [keyOf, if_true]; lia
        | false =>
          have hrf' : p.ref < 5 := by simpa [hloc] using hrf
          rw [hloc] at this
          have h4 : p.ref ≠ 4 := by simpa using this.symm
          simp only [keyOf, Bool.false_eq_true, if_false]; lia
      | some z =>
        obtain ⟨b, sg⟩ := z
        rw [hwd] at s3
        obtain ⟨am, ba, e3, s4, s5⟩ := s3
        subst e3
        have hab := pok.am b sg hwd
        have hr4 : p.loc = false ∧ p.ref = 4 := by
          have := pok.word
          rw [hwd] at this
          simpa using this.symm
        refine tv_true rfl ?_
        wtm_at "Mgo"
        refine c_whole G (R'.less (by decide)) (bits := b) (by wtm_at "Mmem") hab ?_
        wtm_at "Mgo"
        cases hwh : whole b sg with
        | none =>
          refine tv_true rfl ?_
          wtm_at "Mgo"
          have he : eff p = none := by unfold eff; rw [hwd]; simp only [hwh]
          refine' ⟨(Ti, chl, re2, rest2, _), ⟨⟨_, _, _, _, _, _, _, _, _, _, _, _, rfl⟩, hskip he, Oi, by dsimp only; lia, by dsimp only; lia, by dsimp only; lia, hrb2⟩, ?sb⟩
          case sb =>
            show Sb ((L, .ns _ _) :: (ch, _) :: (re2, _) :: (zl as Ti ++ ρ')) _
            wtm_at "Msb"
        | some ix =>
          refine tv_false rfl ?_
          simp only [ovI]
          wtm_at "Mgo"
          have hbad : ¬ (1 ≤ ix ∧ ix ≤ 4) → eff p = none := fun z => by unfold eff; rw [hwd]; simp only [hwh, if_neg z]
          refine t_link ?_
          wtm_at "Mgo"
          refine tv_dec (fun q1 => ?_) (fun q1 => ?_)
          · refine t_last ?_
            wtm_at "Mgo"
            refine tv_dec (fun q2 => ?_) (fun q2 => ?_)
            · have hir : 1 ≤ ix ∧ ix ≤ 4 := ⟨q1, q2⟩
              obtain ⟨wd, mwd, hwd2⟩ := W'.words
              have hg := hwd2 (ix - 1).toNat (by lia)
              rw [show (((ix - 1).toNat : Nat) : Int) + 1 = ix by lia] at hg
              wtm_at "Mgo"
              refine u_dct (by wtm_at "Mmem") hg ?_
              wtm_at "Mgo"
              refine ⟨some (.int ix), some (ix - 1).toNat, by unfold eff; rw [hwd]; simp only [hwh, if_pos hir], ?_, ?_⟩
              · rw [hr4.1]; simp only [keyOf, Bool.false_eq_true, if_false]; lia
              · rw [hr4.1]; rfl
            · have he := hbad (fun z => q2 z.2)
              wtm_at "Mgo"
              refine' ⟨(Ti, chl, re2, rest2, _), ⟨⟨_, _, _, _, _, _, _, _, _, _, _, _, rfl⟩, hskip he, Oi, by dsimp only; lia, by dsimp only; lia, by dsimp only; lia, hrb2⟩, ?sb⟩
              case sb =>
                show Sb ((L, .ns _ _) :: (ch, _) :: (re2, _) :: (zl as Ti ++ ρ')) _
                wtm_at "Msb"
          · have he := hbad (fun z => q1 z.1)
            wtm_at "Mgo"
            refine' ⟨(Ti, chl, re2, rest2, _), ⟨⟨_, _, _, _, _, _, _, _, _, _, _, _, rfl⟩, hskip he, Oi, by dsimp only; lia, by dsimp only; lia, by dsimp only; lia, hrb2⟩, ?sb⟩
            case sb =>
              show Sb ((L, .ns _ _) :: (ch, _) :: (re2, _) :: (zl as Ti ++ ρ')) _
              wtm_at "Msb"
    · rintro σ1 ⟨j9', pl, heff, ⟨hk1, hk2⟩, rfl⟩
      generalize hk : keyOf p.loc p.ref pl = k at hk1 hk2 ⊢
      have hkw := hw k hk1
      have hkl := Oi.wl k hk1 hk2
      have hkb := Oi.bits k
      have hal : as[k]? = some (ad as k) := ad_get (by rw [W.len]; exact hk1)
      have htl : Ti[k]? = some (at_ Ti k) := at_get (by rw [Oi.len]; exact hk1)
      have mk : (ad as k, MO.lst (bl (at_ Ti k))) ∈ zl as Ti := (zl_up (at_ Ti k) hal htl).mem
      wtm_at "Mgo"
      refine c_low G (R'.less (by decide)) (wh := p.wh) (s2.mono fun z hz => by wtm_at "Mmem") pok.wh ?_
      wtm_at "Mgo"
      cases elo : lowOf p.wh with
      | none =>
        have he : eff p = none := by rw [heff, elo]; rfl
        refine tv_true rfl ?_
        wtm_at "Mgo"
        refine' ⟨(Ti, chl, re2, rest2, _), ⟨⟨_, _, _, _, _, _, _, _, _, _, _, _, rfl⟩, hskip he, Oi, by dsimp only; lia, by dsimp only; lia, by dsimp only; lia, hrb2⟩, ?sb⟩
        case sb =>
          show Sb ((L, .ns _ _) :: (ch, _) :: (re2, _) :: (zl as Ti ++ ρ')) _
          wtm_at "Msb"
      | some lo =>
        have he : eff p = some (pl, lo) := by rw [heff, elo]; rfl
        refine tv_false rfl ?_
        simp only [ovI]
        wtm_at "Mgo"
        refine b_list (l := bl (at_ Ti k)) (by wtm_at "Mmem") (by rw [bl_len]; lia) fun bf => ?_
        wtm_at "Mgo"
        have hch : ∀ ch', (p.loc = false ∧ put (at_ Ti k) lo piece ≠ at_ Ti k ∧ p.ref ∉ chl → ch' = chl ++ [p.ref]) → (¬ (p.loc = false ∧ put (at_ Ti k) lo piece ≠ at_ Ti k ∧ p.ref ∉ chl) → ch' = chl) → runParts (T, []) ps value = runParts (Ti.set k (put (at_ Ti k) lo piece), ch') (ps.drop (i + 1)) rest2 := by
          intro ch' a b
          rw [hrun2]
          unfold stepPart
          rw [he]
          dsimp only
          rw [hk]
          split
          · rename_i z; rw [a z]
          · rename_i z; rw [b z]
        intro rg
        refine fo_rng (x := 0) (y := (p.w : Int)) (P := List Nat × Option AV) (fun p2 ρ => (L, .ns nm__law_write
                    [some (AV.ref pa), some (AV.ref va), some (AV.ref ha), some (AV.ref wda), some (AV.ref sla),
                      some (AV.ref ch), some (AV.ref re2), some (AV.ref pp), some (AV.str (kindS p.loc)),
                      some (AV.int ↑p.w), some (AV.int ↑p.ref), some wv, some (AV.ref q), some (AV.ref pc),
                      some (AV.ref (ad as k)), j9', some (AV.int lo), some (AV.ref bf), p2.2]) :: (zl as (Ti.set k p2.1) ++ ρ))
          (fun i p2 => p2.1 = put (at_ Ti k) lo (piece.take i)) ((bf, .lst (bl (at_ Ti k))) :: (re2, .lst (bl rest2)) :: (pc, .lst (bl piece)) :: (ch, .lst (bl chl)) :: (rea, .lst (bl rest)) :: ρ') (at_ Ti k, j12) R'.hd (by have := pok.w2; lia) (fun p ρ => by simp) (by simp only [set_at]; wtm_at "Msb") (by show at_ Ti k = _; rw [List.take_zero, put_nil]) ?_ ?_
        · intro n p2 ρ2 hn hinv2 hρ2 hsb2
          obtain ⟨li, j⟩ := p2
          dsimp only at hinv2 ⊢
          have hlil : li.length = (at_ Ti k).length := by rw [hinv2, put_len]
          have hlil2 : (bl li).length ≤ 6 := by rw [bl_len]; lia
          have hkT : (Ti.set k li)[k]? = some li := by rw [List.getElem?_set_self (by rw [Oi.len]; exact hk1)]
          have mk' : (ad as k, MO.lst (bl li)) ∈ zl as (Ti.set k li) := (zl_up li hal hkT).mem
          have mpc := hρ2 (pc, .lst (bl piece)) (by wtm_at "Mmem")
          obtain ⟨b, hb⟩ : ∃ b, piece[n]? = some b := ⟨_, List.getElem?_eq_getElem (by lia)⟩
          have htk : (piece.take n).length = n := by rw [List.length_take]; lia
          have hps : put (at_ Ti k) lo (piece.take (n + 1)) = if 0 ≤ lo + (n : Int) ∧ lo + (n : Int) < (at_ Ti k).length then li.set (lo + (n : Int)).toNat b else li := by
            rw [take_snoc hb, put_snoc, htk, hinv2]
          simp only [Int.zero_add]
          wtm_at "Mgo"
          refine t_link ?_
          wtm_at "Mgo"
          refine tv_dec (fun q1 => ?_) (fun q1 => ?_)
          · refine t_last ?_
            wtm_at "Mgo"
            rw [bl_len, hlil]
            refine tv_dec (fun q2 => ?_) (fun q2 => ?_)
            · wtm_at "Mgo"
              refine u_list (by wtm_at "Mmem") (by lia) (by lia) (by rw [Int.toNat_natCast]; exact bl_get hb) ?_
              wtm_at "Mgo"
              have ub : Up (ad as k) (.lst (bl li)) (.lst (bl (li.set (lo + (n : Int)).toNat b))) (zl as (Ti.set k li)) (zl as (Ti.set k (li.set (lo + (n : Int)).toNat b))) := by
                have := zl_up (li.set (lo + (n : Int)).toNat b) hal hkT
                rwa [List.set_set] at this
              refine si_listN (k := (lo + (n : Int)).toNat) (by wtm_at "Mup") (by lia) (by lia) (by lia) ?_
              wtm_at "Mgo"
              exact ⟨(li.set (lo + (n : Int)).toNat b, _), by rw [hps, if_pos ⟨q1, q2⟩], Sb.same⟩
            · wtm_at "Mgo"
              exact ⟨(li, _), by rw [hps, if_neg (fun z => q2 z.2)], Sb.same⟩
          · wtm_at "Mgo"
            exact ⟨(li, _), by rw [hps, if_neg (fun z => q1 z.1)], Sb.same⟩
        · rintro ⟨li, j⟩ hinv2
          dsimp only at hinv2 ⊢
          rw [show ((p.w : Int) - 0).toNat = piece.length by lia, List.take_of_length_le (Nat.le_refl _)] at hinv2
          subst hinv2
          have hkT : (Ti.set k (put (at_ Ti k) lo piece))[k]? = some (put (at_ Ti k) lo piece) := by rw [List.getElem?_set_self (by rw [Oi.len]; exact hk1)]
          have mk' : (ad as k, MO.lst (bl (put (at_ Ti k) lo piece))) ∈ zl as (Ti.set k (put (at_ Ti k) lo piece)) := (zl_up [] hal hkT).mem
          wtm_at "Mgo"
          cases hloc : p.loc with
          | true =>
            refine tv_false (by decide) ?_
            wtm_at "Mgo"
            refine' ⟨(Ti.set k (put (at_ Ti k) lo piece), chl, re2, rest2, _), ⟨⟨_, _, _, _, _, _, _, _, _, _, _, _, rfl⟩, ?u1, Oi.set hk1 (put_bits hkb hpb) (put_len ..), ?u2, by dsimp only; lia, by dsimp only; lia, hrb2⟩, ?sb⟩
            case sb =>
              show Sb ((L, .ns _ _) :: (ch, _) :: (re2, _) :: (zl as _ ++ ρ')) _
              wtm_at "Msb"
            case u1 => exact hch _ (fun z => by rw [hloc] at z; cases z.1) (fun _ => rfl)
            case u2 => dsimp only; lia
          | false =>
            refine tv_true (by decide) ?_
            wtm_at "Mgo"
            refine o_nei (ns := (put (at_ Ti k) lo piece).map Int.ofNat) (ms := (at_ Ti k).map Int.ofNat) (by have := R'.un; show _ < 9900; lia) (by rw [← bl_il]; wtm_at "Mmem") (by rw [← bl_il]; wtm_at "Mmem") ?_
            refine tv_bool (fun q1 => ?_) (fun q1 => ?_)
            · have q1' : put (at_ Ti k) lo piece ≠ at_ Ti k := fun z => by rw [z] at q1; simp at q1
              wtm_at "Mgo"
              refine o_notin_lst (ns := chl.map Int.ofNat) (by rw [← bl_il]; wtm_at "Mmem") ?_
              refine tv_bool (fun q2 => ?_) (fun q2 => ?_)
              · have q2' : p.ref ∉ chl := fun z => by
                  have : ((chl.map Int.ofNat).any fun x => x == (p.ref : Int)) = true := List.any_eq_true.mpr ⟨_, List.mem_map_of_mem z, by simp⟩
                  rw [this] at q2
                  cases q2
                wtm_at "Mgo"
                refine b_appendN (by wtm_at "Mup") (by lia) ?_
                wtm_at "Mgo"
                refine' ⟨(Ti.set k (put (at_ Ti k) lo piece), chl ++ [p.ref], re2, rest2, _), ⟨⟨_, _, _, _, _, _, _, _, _, _, _, _, rfl⟩, ?u1, Oi.set hk1 (put_bits hkb hpb) (put_len ..), ?u2, by dsimp only; lia, by dsimp only; lia, hrb2⟩, ?sb⟩
                case sb =>
                  show Sb ((L, .ns _ _) :: (ch, _) :: (re2, _) :: (zl as _ ++ ρ')) _
                  wtm_at "Msb"
                case u1 => exact hch _ (fun _ => rfl) (fun z => absurd ⟨hloc, q1', q2'⟩ z)
                case u2 => dsimp only; simp; lia
              · have q2' : p.ref ∈ chl := by
                  have : ((chl.map Int.ofNat).any fun x => x == (p.ref : Int)) = true := by simpa using q2
                  obtain ⟨x, h1, h2⟩ := List.any_eq_true.mp this
                  obtain ⟨y, h3, rfl⟩ := List.mem_map.mp h1
                  have : y = p.ref := Int.ofNat.inj (beq_iff_eq.mp h2)
                  rw [← this]; exact h3
                wtm_at "Mgo"
                refine' ⟨(Ti.set k (put (at_ Ti k) lo piece), chl, re2, rest2, _), ⟨⟨_, _, _, _, _, _, _, _, _, _, _, _, rfl⟩, ?u1, Oi.set hk1 (put_bits hkb hpb) (put_len ..), ?u2, by dsimp only; lia, by dsimp only; lia, hrb2⟩, ?sb⟩
                case sb =>
                  show Sb ((L, .ns _ _) :: (ch, _) :: (re2, _) :: (zl as _ ++ ρ')) _
                  wtm_at "Msb"
                case u1 => exact hch _ (fun z => absurd q2' z.2.2) (fun _ => rfl)
                case u2 => dsimp only; lia
            · have q1' : put (at_ Ti k) lo piece = at_ Ti k := by
                have : (put (at_ Ti k) lo piece).map Int.ofNat = (at_ Ti k).map Int.ofNat := by simpa using q1
                exact (List.map_inj_right (fun x y e => Int.ofNat.inj e)).mp this
              wtm_at "Mgo"
              refine' ⟨(Ti.set k (put (at_ Ti k) lo piece), chl, re2, rest2, _), ⟨⟨_, _, _, _, _, _, _, _, _, _, _, _, rfl⟩, ?u1, Oi.set hk1 (put_bits hkb hpb) (put_len ..), ?u2, by dsimp only; lia, by dsimp only; lia, hrb2⟩, ?sb⟩
              case sb =>
                show Sb ((L, .ns _ _) :: (ch, _) :: (re2, _) :: (zl as _ ++ ρ')) _
                wtm_at "Msb"
              case u1 => exact hch _ (fun z => absurd q1' z.2.1) (fun _ => rfl)
              case u2 => dsimp only; lia
  · rintro ⟨Ti, chl, rea, rest, js⟩ ⟨⟨j1, j2, j3, j4, j5, j6, j7, j8, j9, j10, j11, j12, e⟩, hrun, Oi, hcl, hsw, hrl, hrb⟩
    dsimp only at e hrun Oi hcl hsw hrl hrb ⊢
    subst e
    rw [List.drop_eq_nil_of_le (by rw [hpv.len]; exact Nat.le_refl _)] at hrun
    have hrun' : runParts (T, []) ps value = (Ti, chl) := hrun
    have hcl2 : chl.length ≤ 60 := by rw [hpv.len] at hcl; lia
    wtm_at "Mgo"
    refine b_sorted (ns := chl.map Int.ofNat) (by rw [← bl_il]; wtm_at "Mmem") (by rw [List.length_map]; lia) fun r ns hp hs => ?_
    have h' := h r ns
    rw [hrun'] at h'
    exact ⟨_, by wtm_at "Msb", h' hp hs⟩
end
section
set_option maxRecDepth 20000
theorem eff_key {ws : List Nat} {p : Pt} (ok : p.Ok) {pl : Option Nat} {lo : Int} (h : eff p = some (pl, lo)) : (p.loc = true ∧ p.ref < 2 ∧ pl = none) ∨ (p.loc = false ∧ p.ref < 4 ∧ pl = none) ∨ (p.loc = false ∧ p.ref = 4 ∧ ∃ j, j < 4 ∧ pl = some j) := by
  have hr := ok.ref
  have hw := ok.word
  unfold eff at h
  cases hwd : p.word with
  | none =>
    rw [hwd] at h hw
    simp only [Option.map_eq_some_iff, Prod.mk.injEq] at h
    obtain ⟨_, _, h1, _⟩ := h
    cases hloc : p.loc with
    | true =>
      rw [hloc] at hr
      exact .inl ⟨rfl, hr, h1.symm⟩
    | false =>
      rw [hloc] at hr hw
      have h4 : p.ref ≠ 4 := by simpa using hw.symm
      have hr' : p.ref < 5 := hr
      exact .inr (.inl ⟨rfl, by omega, h1.symm⟩)
  | some z =>
    obtain ⟨b, sg⟩ := z
    rw [hwd] at h hw
    have hr4 : p.loc = false ∧ p.ref = 4 := by simpa using hw.symm
    simp only at h
    cases hwh : whole b sg with
    | none => rw [hwh] at h; cases h
    | some ix =>
      rw [hwh] at h
      simp only at h
      split at h
      · rename_i hir
        simp only [Option.map_eq_some_iff, Prod.mk.injEq] at h
        obtain ⟨_, _, h1, _⟩ := h
        exact .inr (.inr ⟨hr4.1, hr4.2, (ix - 1).toNat, by omega, h1.symm⟩)
      · cases h
theorem tgt_key {ws : List Nat} {loc : Bool} {ref : Nat} {pl : Option Nat} (tgt : (loc = true ∧ ref < 2 ∧ pl = none) ∨ (loc = false ∧ ref < 4 ∧ pl = none) ∨ (loc = false ∧ ref = 4 ∧ ∃ j, j < 4 ∧ pl = some j)) : keyOf loc ref pl < 11 ∧ keyOf loc ref pl ≠ 4 ∧ wk ws (keyOf loc ref pl) = wid ws loc ref := by
  rcases tgt with ⟨h1, h2, h3⟩ | ⟨h1, h2, h3⟩ | ⟨h1, h2, j, h4, h3⟩
  · rw [h1, h3]
    simp only [keyOf, if_true, wk, wid]
    refine ⟨by omega, by omega, ?_⟩
    rw [if_neg (by omega), if_neg (by omega), show 9 + ref - 4 = 5 + ref by omega]
  · rw [h1, h3]
    simp only [keyOf, wk, wid, Bool.false_eq_true, if_false]
    refine ⟨by omega, by omega, ?_⟩
    rw [if_pos h2]
  · rw [h1, h2, h3]
    simp only [keyOf, wk, wid, Bool.false_eq_true, if_false]
    refine ⟨by omega, by omega, ?_⟩
    rw [if_neg (by omega), if_pos (by omega)]
theorem runRows_app (value : List Nat) : ∀ (a b : List Rw) (s : Tr × List Nat), runRows value s (a ++ b) = runRows value (runRows value s a) b
  | [], _, _ => rfl
  | r :: a, b, s => runRows_app value a b (stepRow value s r)
theorem stepPart_ok {ws : List Nat} {s : Tr × List Nat} {p : Pt} {piece : List Nat} (O : TOk ws s.1) (ok : p.Ok) (hb : Bits piece) : TOk ws (stepPart s p piece).1 := by
  unfold stepPart
  cases he : eff p with
  | none => exact O
  | some z =>
    obtain ⟨pl, lo⟩ := z
    obtain ⟨k1, k2, k3⟩ := tgt_key (ws := ws) (eff_key (ws := ws) ok he)
    exact O.set k1 (put_bits (O.bits _) hb) (put_len ..)
theorem step_row {ws : List Nat} {s : Tr × List Nat} {p : Pt} {value : List Nat} {t : Nat} (O : TOk ws s.1) (ok : p.Ok) (ht : t + p.w ≤ value.length) : runRows value s (rowOf ws p t) = stepPart s p ((value.drop t).take p.w) := by
  have hpl : ((value.drop t).take p.w).length = p.w := by rw [List.length_take, List.length_drop]; omega
  unfold rowOf stepPart
  cases he : eff p with
  | none => rfl
  | some z =>
    obtain ⟨pl, lo⟩ := z
    obtain ⟨k1, k2, k3⟩ := tgt_key (ws := ws) (eff_key (ws := ws) ok he)
    have hwl := (O.wl _ k1 k2).trans k3
    dsimp only
    by_cases hin : 0 < lo + (p.w : Int) ∧ lo < (wid ws p.loc p.ref : Nat)
    · rw [if_pos hin]; rfl
    · rw [if_neg hin]
      have : put (at_ s.1 (keyOf p.loc p.ref pl)) lo ((value.drop t).take p.w) = at_ s.1 (keyOf p.loc p.ref pl) := put_off (by rw [hpl, hwl]; omega)
      rw [this, set_at, if_neg (fun z => z.2.1 rfl)]
      rfl
theorem run_same {ws value : List Nat} (hvb : Bits value) : ∀ (ps : List Pt) (s : Tr × List Nat) (t : Nat), TOk ws s.1 → (∀ p ∈ ps, p.Ok) → t ≤ value.length → sumW ps ≤ t → runRows value s (rowsOf ws ps t) = runParts s ps (value.take t)
  | [], s, t, _, _, _, _ => rfl
  | p :: ps, s, t, O, hok, ht, hs => by
    have hw : p.w + sumW ps ≤ t := by simpa [sumW] using hs
    have hrl : (value.take t).length = t := by rw [List.length_take]; omega
    have e1 : (value.take t).drop ((value.take t).length - p.w) = (value.drop (t - p.w)).take p.w := by
      rw [hrl, List.drop_take]; congr 1; omega
    have e2 : (value.take t).take ((value.take t).length - p.w) = value.take (t - p.w) := by
      rw [hrl, List.take_take, Nat.min_eq_left (by omega)]
    rw [rowsOf, runRows_app, step_row O (hok p (.head _)) (by omega), runParts, e1, e2]
    exact run_same hvb ps _ _ (stepPart_ok O (hok p (.head _)) fun b hb => hvb _ (List.mem_of_mem_drop (List.mem_of_mem_take hb))) (fun q hq => hok q (.tail _ hq)) (by omega) (by omega)
theorem rows_ok {ws : List Nat} {n : Nat} : ∀ (ps : List Pt) (t : Nat), (∀ p ∈ ps, p.Ok) → t ≤ n → sumW ps ≤ t → ∀ r ∈ rowsOf ws ps t, r.Ok ws n
  | [], _, _, _, _, r, h => by cases h
  | p :: ps, t, hok, ht, hs, r, h => by
    have hw : p.w + sumW ps ≤ t := by simpa [sumW] using hs
    rw [rowsOf] at h
    rcases List.mem_append.mp h with h | h
    · unfold rowOf at h
      split at h
      · rename_i pl lo he
        split at h
        · rename_i hin
          rw [List.mem_singleton] at h
          subst h
          exact ⟨eff_key (ws := ws) (hok p (.head _)) he, hin.1, hin.2, (hok p (.head _)).w1, by dsimp only; omega⟩
        · cases h
      · cases h
    · exact rows_ok ps (t - p.w) (fun q hq => hok q (.tail _ hq)) (by omega) (by omega) r h
theorem rows_len {ws : List Nat} : ∀ (ps : List Pt) (t : Nat), (rowsOf ws ps t).length ≤ ps.length
  | [], _ => Nat.le_refl _
  | p :: ps, t => by
    have := rows_len (ws := ws) ps (t - p.w)
    rw [rowsOf, List.length_append, List.length_cons]
    have h1 : (rowOf ws p (t - p.w)).length ≤ 1 := by
      unfold rowOf
      split
      · split <;> simp
      · simp
    omega
theorem runParts_ok {ws : List Nat} : ∀ (ps : List Pt) (s : Tr × List Nat) (rest : List Nat), TOk ws s.1 → (∀ p ∈ ps, p.Ok) → Bits rest → TOk ws (runParts s ps rest).1
  | [], s, _, O, _, _ => O
  | p :: ps, s, rest, O, hok, hb => runParts_ok ps _ _ (stepPart_ok O (hok p (.head _)) fun b h => hb _ (List.mem_of_mem_drop h)) (fun q hq => hok q (.tail _ hq)) (fun b h => hb _ (List.mem_of_mem_take h))
theorem sorted_same {a b l : List Int} (ha : a.Perm l) (hb : b.Perm l) (sa : a.Pairwise (· ≤ ·)) (sb : b.Pairwise (· ≤ ·)) : a = b :=
  (ha.trans hb.symm).eq_of_pairwise (fun x y _ _ h1 h2 => Int.le_antisymm h1 h2) sa sb
end
section
set_option maxRecDepth 20000
section
variable {c : Cx} {A : Around} {env : Env} {L : Addr} {names : List (Str × NameKind)} {σ σ' : Led} {pos : Pos} {a b d C f r : Addr} {l l' : List AV} {K : Frag}
theorem cellOf_of {x : Str} (h : env.cells.lookup x = some a) : cellOf env x = pure a := by unfold cellOf; rw [h]
noncomputable abbrev mkSc (names : List (Str × NameKind)) : Scope := { kind := .function, names := names, isGenerator := false, isCoroutine := false, more := [] }
noncomputable abbrev fre (x : String) : Str × NameKind := (Str.ofString x, .free)
theorem rel_map {nm0 : List (Str × NameKind)} (F : FrOk env L names) (hs : ∀ p ∈ nm0, p.2 = .free → KdAt names p.1 .cell) : (relabel (mkSc nm0) env).names = nm0.map fun p => if p.2 = .free then (p.1, .cell) else p := by
  unfold relabel
  refine List.map_congr_left fun p hp => ?_
  obtain ⟨n, k⟩ := p
  by_cases q : k = .free
  · subst q
    have := hs _ hp rfl
    rw [if_pos rfl]
    dsimp only
    rw [F.kind, F.kd this]
    rfl
  · have : (k == NameKind.free) = false := by simpa using q
    rw [if_neg q]
    simp only [this, Bool.false_and, Bool.false_eq_true, if_false]
theorem e_cellK {x : Str} {v : AV} {Q : AV → Led → Prop} (F : FrOk env L names) (k : KdAt names x .cell) (hc : env.cells.lookup x = some a) (m : (a, .cel (some v)) ∈ σ) (h : Q v σ) : E c A env (.Name x pos) σ Q := e_cell F k hc m h
noncomputable abbrev nmc_turn : List (Str × NameKind) := [lc ".0", lc "turn", gl "_law_next", ce "row"]
theorem cp_turn {a0 : Addr} (F : FrOk env L names) (k0 : KdAt names (Str.ofString "row") .cell) (h0 : env.cells.lookup (Str.ofString "row") = some a0) : CpOk env (mkSc [lc ".0", lc "turn", gl "_law_next", fre "row"]) [(Str.ofString "row", a0)] nmc_turn (Str.ofString "turn") where
  clos := by
    unfold closureFor
    simp [cellOf_of h0]
  cell := by simp
  kind := rfl
  loc := by decide
  hx := by decide
  nms := by
    rw [rel_map F]
    · rfl
    intro p hp
    simp only [List.mem_cons, List.not_mem_nil, or_false] at hp
    rcases hp with rfl | rfl | rfl | rfl
    · exact fun z => by cases z
    · exact fun z => by cases z
    · exact fun z => by cases z
    · exact fun _ => k0
  nd := by decide
  dbg := by decide
noncomputable abbrev nmc_bits : List (Str × NameKind) := [lc ".0", lc "bits", gl "_law_made"]
theorem cp_bits  (F : FrOk env L names)  : CpOk env (mkSc [lc ".0", lc "bits", gl "_law_made"]) [] nmc_bits (Str.ofString "bits") where
  clos := by
    unfold closureFor
    simp []
  cell := by simp
  kind := rfl
  loc := by decide
  hx := by decide
  nms := by
    rw [rel_map F]
    · rfl
    intro p hp
    simp only [List.mem_cons, List.not_mem_nil, or_false] at hp
    rcases hp with rfl | rfl | rfl
    · exact fun z => by cases z
    · exact fun z => by cases z
    · exact fun z => by cases z
  nd := by decide
  dbg := by decide
noncomputable abbrev nmc_part3 : List (Str × NameKind) := [lc ".0", lc "turn", gl "_law_part", ce "row", ce "widths"]
theorem cp_part3 {a0 a1 : Addr} (F : FrOk env L names) (k0 : KdAt names (Str.ofString "row") .cell) (h0 : env.cells.lookup (Str.ofString "row") = some a0) (k1 : KdAt names (Str.ofString "widths") .cell) (h1 : env.cells.lookup (Str.ofString "widths") = some a1) : CpOk env (mkSc [lc ".0", lc "turn", gl "_law_part", fre "row", fre "widths"]) [(Str.ofString "widths", a1), (Str.ofString "row", a0)] nmc_part3 (Str.ofString "turn") where
  clos := by
    unfold closureFor
    simp [cellOf_of h0, cellOf_of h1]
  cell := by simp
  kind := rfl
  loc := by decide
  hx := by decide
  nms := by
    rw [rel_map F]
    · rfl
    intro p hp
    simp only [List.mem_cons, List.not_mem_nil, or_false] at hp
    rcases hp with rfl | rfl | rfl | rfl | rfl
    · exact fun z => by cases z
    · exact fun z => by cases z
    · exact fun z => by cases z
    · exact fun _ => k0
    · exact fun _ => k1
  nd := by decide
  dbg := by decide
noncomputable abbrev nmc_src : List (Str × NameKind) := [lc ".0", lc "part", gl "_law_source"]
theorem cp_src  (F : FrOk env L names)  : CpOk env (mkSc [lc ".0", lc "part", gl "_law_source"]) [] nmc_src (Str.ofString "part") where
  clos := by
    unfold closureFor
    simp []
  cell := by simp
  kind := rfl
  loc := by decide
  hx := by decide
  nms := by
    rw [rel_map F]
    · rfl
    intro p hp
    simp only [List.mem_cons, List.not_mem_nil, or_false] at hp
    rcases hp with rfl | rfl | rfl
    · exact fun z => by cases z
    · exact fun z => by cases z
    · exact fun z => by cases z
  nd := by decide
  dbg := by decide
noncomputable abbrev nmc_get : List (Str × NameKind) := [lc ".0", lc "key", ce "store"]
theorem cp_get {a0 : Addr} (F : FrOk env L names) (k0 : KdAt names (Str.ofString "store") .cell) (h0 : env.cells.lookup (Str.ofString "store") = some a0) : CpOk env (mkSc [lc ".0", lc "key", fre "store"]) [(Str.ofString "store", a0)] nmc_get (Str.ofString "key") where
  clos := by
    unfold closureFor
    simp [cellOf_of h0]
  cell := by simp
  kind := rfl
  loc := by decide
  hx := by decide
  nms := by
    rw [rel_map F]
    · rfl
    intro p hp
    simp only [List.mem_cons, List.not_mem_nil, or_false] at hp
    rcases hp with rfl | rfl | rfl
    · exact fun z => by cases z
    · exact fun z => by cases z
    · exact fun _ => k0
  nd := by decide
  dbg := by decide
noncomputable abbrev nmc_word : List (Str × NameKind) := [lc ".0", lc "index", ce "store"]
theorem cp_word {a0 : Addr} (F : FrOk env L names) (k0 : KdAt names (Str.ofString "store") .cell) (h0 : env.cells.lookup (Str.ofString "store") = some a0) : CpOk env (mkSc [lc ".0", lc "index", fre "store"]) [(Str.ofString "store", a0)] nmc_word (Str.ofString "index") where
  clos := by
    unfold closureFor
    simp [cellOf_of h0]
  cell := by simp
  kind := rfl
  loc := by decide
  hx := by decide
  nms := by
    rw [rel_map F]
    · rfl
    intro p hp
    simp only [List.mem_cons, List.not_mem_nil, or_false] at hp
    rcases hp with rfl | rfl | rfl
    · exact fun z => by cases z
    · exact fun z => by cases z
    · exact fun _ => k0
  nd := by decide
  dbg := by decide
noncomputable abbrev nmc_wmade : List (Str × NameKind) := [lc ".0", lc "index", gl "_law_made", ce "words"]
theorem cp_wmade {a0 : Addr} (F : FrOk env L names) (k0 : KdAt names (Str.ofString "words") .cell) (h0 : env.cells.lookup (Str.ofString "words") = some a0) : CpOk env (mkSc [lc ".0", lc "index", gl "_law_made", fre "words"]) [(Str.ofString "words", a0)] nmc_wmade (Str.ofString "index") where
  clos := by
    unfold closureFor
    simp [cellOf_of h0]
  cell := by simp
  kind := rfl
  loc := by decide
  hx := by decide
  nms := by
    rw [rel_map F]
    · rfl
    intro p hp
    simp only [List.mem_cons, List.not_mem_nil, or_false] at hp
    rcases hp with rfl | rfl | rfl | rfl
    · exact fun z => by cases z
    · exact fun z => by cases z
    · exact fun z => by cases z
    · exact fun _ => k0
  nd := by decide
  dbg := by decide
theorem vl_of {σ : Led} : ∀ {vs : List AV} {ls : List (List Nat)}, Vecs σ vs ls → VL σ vs (ls.map made)
  | [], [], _ => trivial
  | [], _ :: _, h => by have := h.1; simp at this
  | _ :: _, [], h => by have := h.1; simp at this
  | v :: vs, l :: ls, h => by
    refine ⟨?_, vl_of ⟨by have := h.1; simpa using this, fun i m e => ?_⟩⟩
    · obtain ⟨t, h1, h2⟩ := h.2 0 l rfl
      simp only [List.getElem?_cons_zero, Option.some.injEq] at h1
      exact ⟨t, h1, h2⟩
    · obtain ⟨t, h1, h2⟩ := h.2 (i + 1) m (by simpa using e)
      exact ⟨t, by simpa using h1, h2⟩
theorem Vecs.snoc {σ : Led} {vs : List AV} {ls : List (List Nat)} {t : Addr} {l : List Nat} (h : Vecs σ vs ls) (m : (t, MO.tup (tv l)) ∈ σ) : Vecs σ (vs ++ [.ref t]) (ls ++ [l]) := by
  refine ⟨by simp [h.1], fun i x e => ?_⟩
  by_cases q : i < ls.length
  · rw [List.getElem?_append_left q] at e
    obtain ⟨t', h1, h2⟩ := h.2 i x e
    exact ⟨t', by rw [List.getElem?_append_left (by rw [h.1]; exact q)]; exact h1, h2⟩
  · have hl : (ls ++ [l]).length = ls.length + 1 := by simp
    have : i = ls.length := by
      have := (List.getElem?_eq_some_iff.mp e).1
      omega
    subst this
    rw [List.getElem?_append_right (Nat.le_refl _), Nat.sub_self] at e
    cases e
    exact ⟨t, by rw [← h.1, List.getElem?_append_right (Nat.le_refl _), Nat.sub_self]; rfl, m⟩
theorem Vecs.nil {σ : Led} : Vecs σ [] [] := ⟨rfl, fun i l e => by simp at e⟩
end
end
section
set_option maxRecDepth 20000
variable {c : Cx} {A : Around} {env : Env} {L : Addr} {σ : Led} {K : Frag}
structure Cl (env : Env) (cr cwi cs cwo : Addr) : Prop where
  row : env.cells.lookup (Str.ofString "row") = some cr
  widths : env.cells.lookup (Str.ofString "widths") = some cwi
  store : env.cells.lookup (Str.ofString "store") = some cs
  words : env.cells.lookup (Str.ofString "words") = some cwo
noncomputable def LX (c : Cx) (A : Around) (env : Env) (n : Nat) (σ : Led) : Prop := X c A (execs (List.drop n (fdBody (st 95))) env) σ (fun _ => False) (fun _ => False) (fun _ => False) (fun v _ => v = .bool true)
structure Lp (σ : Led) (x sl va ma cx fr ha wda sla pa rl cs cwo : Addr) (as : List Addr) (ws : List Nat) (pvs rvs : List AV) (ps : List Pt) (tot : Nat) : Prop where
  wd : Wd σ x sl va ma ws
  cw : Cw σ cx x fr
  tw : Tw σ as ha wda sla
  c1 : (cs, MO.cel (some (.ref x))) ∈ σ
  c2 : (cwo, MO.cel (some (.ref wda))) ∈ σ
  pl : (pa, MO.lst pvs) ∈ σ
  pv : All2 (PtAt σ) pvs ps
  ok : ∀ p ∈ ps, p.Ok
  rl : (rl, MO.lst rvs) ∈ σ
  rv : All2 (RowAt σ) rvs (rowsOf ws ps tot)
  sum : sumW ps = tot
  len : ps.length ≤ 5
  w512 : ws.getD 5 0 = 4 ∧ ws.getD 6 0 = 2
theorem Lp.mono {σ σ' : Led} {x sl va ma cx fr ha wda sla pa rl cs cwo : Addr} {as : List Addr} {ws : List Nat} {pvs rvs : List AV} {ps : List Pt} {tot : Nat} (P : Lp σ x sl va ma cx fr ha wda sla pa rl cs cwo as ws pvs rvs ps tot) (hs : ∀ p ∈ σ, p ∈ σ') : Lp σ' x sl va ma cx fr ha wda sla pa rl cs cwo as ws pvs rvs ps tot :=
  ⟨P.wd.mono hs, P.cw.mono hs, P.tw.mono hs, hs _ P.c1, hs _ P.c2, hs _ P.pl, P.pv.mono fun _ _ h => h.mono hs, P.ok, hs _ P.rl, P.rv.mono fun _ _ h => h.mono hs, P.sum, P.len, P.w512⟩
theorem law_turns (G : Ps c K) (R : Rm A 10) (F0 : FrOk env L nm_law) {cr cwi cs cwo : Addr} (C : Cl env cr cwi cs cwo) {τ : Led} {x sl va ma cx fr ha wda sla pa rl vl : Addr} {as : List Addr} {ws value : List Nat} {pvs rvs fv : List AV} {ps : List Pt} {tot n : Nat} {vd : List (Int × AV)} {mm : Option (Addr × List (Int × AV))} {T : Tr} {i2 i3 i5 i9 i13 i16 : Option AV}
    (P : Lp τ x sl va ma cx fr ha wda sla pa rl cs cwo as ws pvs rvs ps tot) (S : StR τ ws vd mm fv T n) (hn : n ≤ 20) (hvb : Bits value) (hvl : value.length = tot) (ht : tot ≤ 60) :
    LX c A env 18 ((L, .ns nm_law [i2, none, i3, i5, none, i9, none, some (.ref ha), none, i13, some (.ref sla), some (.ref cx), some (.ref pa), i16, some (.ref vl), some (.ref rl), none]) :: (vl, .lst (bl value)) :: (va, .dct vd) :: (ma, .dct (memD mm)) :: (memL mm ++ ((fr, .lst fv) :: (zl as T ++ τ)))) := by
  unfold LX
  have hC1 := C.store
  have hC2 := C.words
  refine x_cons ?_
  wtm_at "Mgo"
  intro rg
  refine fo_rng (x := 0) (y := 2) (P := Tr × List Nat × Addr × List (Int × AV) × Option (Addr × List (Int × AV)) × List AV × Led × Option AV × Option AV)
    (fun p ρ => (L, .ns nm_law [i2, none, i3, p.2.2.2.2.2.2.2.1, none, i9, none, some (.ref ha), none, i13, some (.ref sla), some (.ref cx), some (.ref pa), i16, some (.ref p.2.2.1), some (.ref rl), p.2.2.2.2.2.2.2.2]) :: (p.2.2.1, .lst (bl p.2.1)) :: (va, .dct p.2.2.2.1) :: (ma, .dct (memD p.2.2.2.2.1)) :: (memL p.2.2.2.2.1 ++ ((fr, .lst p.2.2.2.2.2.1) :: (zl as p.1 ++ (p.2.2.2.2.2.2.1 ++ ρ)))))
    (fun i p => StR (p.2.2.2.2.2.2.1 ++ τ) ws p.2.2.2.1 p.2.2.2.2.1 p.2.2.2.2.2.1 p.1 (n + 5 * i) ∧ Bits p.2.1 ∧ p.2.1.length = tot)
    τ (T, value, vl, vd, mm, fv, [], i5, none) R.hd (by decide) (fun p ρ => by simp) (by wtm_at "Msb") ⟨S, hvb, hvl⟩ ?_ ?_
  · intro i p ρ hi hinv hρ hsb_
    obtain ⟨Ti, val, vli, vdi, mmi, fvi, nw, j3, j16⟩ := p
    obtain ⟨Si, hvb, hvl⟩ := hinv
    dsimp only at Si hvb hvl ⊢
    have P' := P.mono hρ
    obtain ⟨Pwd, Pcw, Ptw, Pc1, Pc2, Ppl, Ppv, Pok, Prl, Prv, Psum, Plen, P512⟩ := P'
    have hi2 : i < 2 := by omega
    wtm_at "Mgo"
    have hwk : ∀ k, k < 11 → wk ws k ≤ 6 := fun k hk => by
      unfold wk
      split
      · exact (Pwd.lo k (by omega)).2
      · split
        · exact (Pwd.lo 4 (by omega)).2
        · exact (Pwd.lo (k - 4) (by omega)).2
    refine Call.sb (σ' := zl as Ti ++ _) (by wtm_at "Msb") ?_
    refine c_write G (R.less (by decide)) (ws := ws) (ps := ps) (pvs := pvs) (value := val) (Ptw.mono fun z hz => by wtm_at "Mmem") Si.ok hwk (by wtm_at "Mmem") (Ppv.mono fun _ _ h => h.mono fun z hz => by wtm_at "Mmem") Pok (by wtm_at "Mmem") hvb (by omega) (by omega) (by omega) fun du ns hp hs => ?_
    have hsame := run_same hvb ps (Ti, []) val.length Si.ok Pok (Nat.le_refl _) (by omega)
    rw [List.take_of_length_le (Nat.le_refl _)] at hsame
    rw [hvl] at hsame
    rw [← hsame] at hp ⊢
    have hOk' : TOk ws (runRows val (Ti, []) (rowsOf ws ps tot)).1 := by rw [hsame]; exact runParts_ok ps _ _ Si.ok Pok hvb
    wtm_at "Mgo"
    refine c_made G (R.less (by decide)) (bits := val) (by wtm_at "Mmem") hvb (by omega) fun vt => ?_
    wtm_at "Mgo"
    refine Call.sb (σ' := (va, .dct vdi) :: (ma, .dct (memD mmi)) :: (memL mmi ++ ((fr, .lst fvi) :: _))) (by wtm_at "Msb") ?_
    have hrl := rows_len (ws := ws) ps tot
    refine c_store_rows G (R.less (by decide)) (ws := ws) (rows := rowsOf ws ps tot) (value := val) (Pwd.mono fun z hz => by wtm_at "Mmem") (Pcw.mono fun z hz => by wtm_at "Mmem") (by wtm_at "Mmem") (by wtm_at "Mmem") (Prv.mono fun _ _ h => h.mono fun z hz => by wtm_at "Mmem") ((Si.mono (app_sub hρ) (Nat.le_refl _)).mono (fun z hz => by wtm_at "Mmem") (Nat.le_refl _)) (by rw [hvl]; exact rows_ok ps tot Pok (Nat.le_refl _) (by omega)) hvb (by omega) (by omega) P512 fun r vd' mm' fv' nw1 ns2 hS hp2 hs2 => ?_
    have hns : ns2 = ns := sorted_same hp2 hp hs2 hs
    have S2 := hS _ Si
    generalize (runRows val (Ti, []) (rowsOf ws ps tot)).1 = T' at S2 hOk' ⊢
    have hun := R.un
    wtm_at "Mgo"
    refine o_nei (ns := ns2) (ms := ns) (by show _ < 9900; omega) (by wtm_at "Mmem") (by wtm_at "Mmem") ?_
    refine tv_false (by rw [hns]; simp) ?_
    wtm_at "Mgo"
    refine e_comp (cp_get F0 (by wtm_at "Mkd") hC1) ?_
    wtm_at "Mgo"
    intro rg1
    refine co_rng (x0 := 0) (y0 := 4) (P := Led) (fun p ρ => (va, .dct vd') :: (p ++ ρ)) (fun i p ys => Vecs (p ++ (nw1 ++ (nw ++ τ))) ys ((List.range i).map (at_ T'))) _ [] (vx := fun v => [none, some v, none]) F0 (cp_get F0 (by wtm_at "Mkd") hC1) R.hd (by decide) (fun p ρ => by simp) (by wtm_at "Msb") Vecs.nil (fun v => .there .here) ?_ ?_
    · intro k p ys ρ2 C2 hk hyl hinv hρ2 hC2m Fc
      have hB : ∀ z ∈ nw1 ++ (nw ++ τ), z ∈ ρ2 := fun z hz => hρ2 z (by
        rcases List.mem_append.mp hz with hz | hz
        · wtm_at "Mmem"
        · rcases List.mem_append.mp hz with hz | hz
          · wtm_at "Mmem"
          · have hz := hρ z hz
            wtm_at "Mmem")
      have c1' := hρ2 (cs, .cel (some (.ref x))) (by wtm_at "Mmem")
      obtain ⟨st, st1, st2⟩ := Pwd.sx
      have st1' := hρ2 (x, .ins 693 st) (by wtm_at "Mmem")
      have st2' := hρ2 (st, .fld (stF sl va ma)) (by wtm_at "Mmem")
      simp only [Int.zero_add] at hC2m
      wtm_at "Mgo"
      refine e_cell Fc (by wtm_at "Mkd") rfl (by wtm_at "Mmem") ?_
      wtm_at "Mgo"
      refine c_get G (R.less (by decide)) (k := k) (l := at_ T' k) (Pwd.mono fun z hz => by
        have hz := hρ2 z (by wtm_at "Mmem")
        wtm_at "Mmem") (by wtm_at "Mmem") (by omega) ((S2.sg k (by omega)).mono fun z hz => by
        have hz := hB z hz
        wtm_at "Mmem") (by rw [S2.ok.wl k (by omega) (by omega)]; unfold wk; rw [if_pos (by omega)]) fun r nwg hr => ?_
      refine ⟨nwg ++ p, ?_, by rw [List.append_assoc]; wtm_at "Msb"⟩
      rw [List.range_succ, List.map_append, List.append_assoc]
      exact (hinv.mono (in_app nwg)).snoc (by
        have := hr _ (S2.sg k (by omega))
        rcases List.mem_append.mp this with h | h
        · exact List.mem_append_left _ h
        · exact List.mem_append_right _ (List.mem_append_right _ h))
    · intro p1 ys1 D1 C1 hyl1 hinv1
      refine ⟨_, (_, _), rfl, ?_⟩
      dsimp only
      refine e_comp (cp_bits F0) ?_
      wtm_at "Mgo"
      obtain ⟨hl, ml, hll, hld⟩ := Ptw.held
      refine ⟨ha, hl, 4, rfl, by wtm_at "Mmem", rfl, by decide, by omega, fun hsl => ?_⟩
      refine co_list (l := hl.take (4 : Int).toNat) (P := Led) (fun p ρ => (hsl, .lst (hl.take (4 : Int).toNat)) :: (p ++ ρ)) (fun i p ys => Vecs p ys ((List.range i).map (at_ T'))) _ [] (vx := fun v => [none, some v, none]) F0 (cp_bits F0) R.hd (fun p ρ => by simp) (by wtm_at "Msb") (fun p => .head _) Vecs.nil (fun v => .there .here) (by rw [List.length_take]; omega) ?_ ?_
      · intro k v p ys ρ2 C2 hv hyl hinv hρ2 hC2m Fc
        have hk4 : k < 4 := by
          have := (List.getElem?_eq_some_iff.mp hv).1
          rw [List.length_take] at this
          have e4 : (4 : Int).toNat = 4 := rfl
          omega
        have ev : v = .ref (ad as k) := by
          rw [List.getElem?_take_of_lt (by have e4 : (4 : Int).toNat = 4 := rfl; omega), hld k (by omega)] at hv
          exact (Option.some.inj hv).symm
        subst ev
        have mz : (ad as k, MO.lst (bl (at_ T' k))) ∈ zl as T' := (zl_up [] (ad_get (by rw [Ptw.len]; omega)) (at_get (by rw [hOk'.len]; omega))).mem
        have mz2 := hρ2 (ad as k, .lst (bl (at_ T' k))) (by wtm_at "Mmem")
        have hwl := hOk'.wl k (by omega) (by omega)
        have := hwk k (by omega)
        wtm_at "Mgo"
        refine c_made G (R.less (by decide)) (bits := at_ T' k) (by wtm_at "Mmem") (hOk'.bits k) (by omega) fun r => ?_
        refine ⟨(r, .tup (tv (at_ T' k))) :: p, ?_, by wtm_at "Msb"⟩
        rw [List.range_succ, List.map_append]
        exact (hinv.mono (in_cons _)).snoc (.head _)
      · intro p2 ys2 D2 C2 hyl2 hinv2
        have e4 : (hl.take (4 : Int).toNat).length = 4 := by rw [List.length_take, hll]; rfl
        rw [e4] at hinv2
        have e5 : ((4 : Int) - 0).toNat = 4 := rfl
        rw [e5] at hinv1
        refine ⟨_, (_, _), rfl, ?_⟩
        dsimp only
        refine o_nev (a := D1) (b := D2) (vs := ys1) (ws := ys2) (ns := ((List.range 4).map (at_ T')).map made) (ms := ((List.range 4).map (at_ T')).map made) (by show _ < 9900; omega) (by wtm_at "Mmem") (vl_of (hinv1.mono fun z hz => by
            rcases List.mem_append.mp hz with hz | hz
            · wtm_at "Mmem"
            · rcases List.mem_append.mp hz with hz | hz
              · wtm_at "Mmem"
              · rcases List.mem_append.mp hz with hz | hz
                · wtm_at "Mmem"
                · have hz := hρ z hz
                  wtm_at "Mmem")) (by wtm_at "Mmem") (vl_of (hinv2.mono fun z hz => by wtm_at "Mmem")) ?_
        refine tv_false (by simp) ?_
        wtm_at "Mgo"
        clear hinv1 hinv2 hyl1 hyl2
        refine e_comp (cp_word F0 (by wtm_at "Mkd") hC1) ?_
        wtm_at "Mgo"
        intro rg3
        refine co_rng (x0 := 1) (y0 := 5) (P := Led) (fun p ρ => (ma, .dct (memD mm')) :: (p ++ ρ)) (fun i p ys => Vecs (p ++ (nw1 ++ (nw ++ τ))) ys ((List.range i).map fun j => at_ T' (5 + j))) _ [] (vx := fun v => [none, some v, none]) F0 (cp_word F0 (by wtm_at "Mkd") hC1) R.hd (by decide) (fun p ρ => by simp) (by wtm_at "Msb") Vecs.nil (fun v => .there .here) ?_ ?_
        · intro k p ys ρ2 C3 hk hyl hinv hρ2 hC2m Fc
          have hB : ∀ z ∈ nw1 ++ (nw ++ τ), z ∈ ρ2 := fun z hz => hρ2 z (by
            rcases List.mem_append.mp hz with hz | hz
            · wtm_at "Mmem"
            · rcases List.mem_append.mp hz with hz | hz
              · wtm_at "Mmem"
              · have hz := hρ z hz
                wtm_at "Mmem")
          have c1' := hρ2 (cs, .cel (some (.ref x))) (by wtm_at "Mmem")
          obtain ⟨st, st1, st2⟩ := Pwd.sx
          have st1' := hρ2 (x, .ins 693 st) (by wtm_at "Mmem")
          have st2' := hρ2 (st, .fld (stF sl va ma)) (by wtm_at "Mmem")
          have hml : ∀ z ∈ memL mm', z ∈ ρ2 := fun z hz => hρ2 z (by wtm_at "Mmem")
          wtm_at "Mgo"
          refine e_cell Fc (by wtm_at "Mkd") rfl (by wtm_at "Mmem") ?_
          wtm_at "Mgo"
          rw [show (1 : Int) + (k : Int) - 1 = (k : Int) by omega]
          refine c_word G (R.less (by decide)) (mm0 := mm') (j := k) (l := at_ T' (5 + k)) (Pwd.mono fun z hz => by
            have hz := hρ2 z (by wtm_at "Mmem")
            wtm_at "Mmem") (by wtm_at "Mmem") (fun z hz => by
            have hz := hml z hz
            wtm_at "Mmem") ((S2.wd k (by omega)).mono fun z hz => by
            have hz := hB z hz
            wtm_at "Mmem") (by rw [S2.ok.wl (5 + k) (by omega) (by omega)]; unfold wk; rw [if_neg (by omega), if_pos (by omega)]) fun r nwg hr => ?_
          refine ⟨nwg ++ p, ?_, by rw [List.append_assoc]; wtm_at "Msb"⟩
          rw [List.range_succ, List.map_append, List.append_assoc]
          exact (hinv.mono (in_app nwg)).snoc (by
            have := hr _ (S2.wd k (by omega))
            rcases List.mem_append.mp this with h | h
            · exact List.mem_append_left _ h
            · exact List.mem_append_right _ (List.mem_append_right _ h))
        · intro p3 ys3 D3 C3 hyl3 hinv3
          refine ⟨_, (_, _), rfl, ?_⟩
          dsimp only
          refine e_comp (cp_wmade F0 (by wtm_at "Mkd") hC2) ?_
          wtm_at "Mgo"
          intro rg4
          refine co_rng (x0 := 1) (y0 := 5) (P := Led) (fun p ρ => (ma, .dct (memD mm')) :: (p ++ ρ)) (fun i p ys => Vecs p ys ((List.range i).map fun j => at_ T' (5 + j))) _ [] (vx := fun v => [none, some v, none, none]) F0 (cp_wmade F0 (by wtm_at "Mkd") hC2) R.hd (by decide) (fun p ρ => by simp) (by wtm_at "Msb") Vecs.nil (fun v => .there .here) ?_ ?_
          · intro k p ys ρ2 C4 hk hyl hinv hρ2 hC2m Fc
            have c2' := hρ2 (cwo, .cel (some (.ref wda))) (by wtm_at "Mmem")
            obtain ⟨wd, mwd, hwd⟩ := Ptw.words
            have mwd' := hρ2 (wda, .dct wd) (by wtm_at "Mmem")
            have hg := hwd k (by omega)
            rw [Int.add_comm] at hg
            have mz : (ad as (5 + k), MO.lst (bl (at_ T' (5 + k)))) ∈ zl as T' := (zl_up [] (ad_get (by rw [Ptw.len]; omega)) (at_get (by rw [hOk'.len]; omega))).mem
            have mz2 := hρ2 (ad as (5 + k), .lst (bl (at_ T' (5 + k)))) (by wtm_at "Mmem")
            have hwl := hOk'.wl (5 + k) (by omega) (by omega)
            have := hwk (5 + k) (by omega)
            wtm_at "Mgo"
            refine e_cell Fc (by wtm_at "Mkd") rfl (by wtm_at "Mmem") ?_
            wtm_at "Mgo"
            refine u_dct (by wtm_at "Mmem") hg ?_
            wtm_at "Mgo"
            refine c_made G (R.less (by decide)) (bits := at_ T' (5 + k)) (by wtm_at "Mmem") (hOk'.bits (5 + k)) (by omega) fun r => ?_
            refine ⟨(r, .tup (tv (at_ T' (5 + k)))) :: p, ?_, by wtm_at "Msb"⟩
            rw [List.range_succ, List.map_append]
            exact (hinv.mono (in_cons _)).snoc (.head _)
          · intro p4 ys4 D4 C4 hyl4 hinv4
            have e5 : ((5 : Int) - 1).toNat = 4 := rfl
            rw [e5] at hinv3 hinv4
            refine ⟨_, (_, _), rfl, ?_⟩
            dsimp only
            refine o_nev (a := D3) (b := D4) (vs := ys3) (ws := ys4) (ns := ((List.range 4).map fun j => at_ T' (5 + j)).map made) (ms := ((List.range 4).map fun j => at_ T' (5 + j)).map made) (by show _ < 9900; omega) (by wtm_at "Mmem") (vl_of (hinv3.mono fun z hz => by
              rcases List.mem_append.mp hz with hz | hz
              · wtm_at "Mmem"
              · rcases List.mem_append.mp hz with hz | hz
                · wtm_at "Mmem"
                · rcases List.mem_append.mp hz with hz | hz
                  · wtm_at "Mmem"
                  · have hz := hρ z hz
                    wtm_at "Mmem")) (by wtm_at "Mmem") (vl_of (hinv4.mono fun z hz => by wtm_at "Mmem")) ?_
            refine tv_false (by simp) ?_
            clear hinv3 hinv4 hyl3 hyl4
            obtain ⟨cd, cd1, cd2⟩ := Pcw.ob
            wtm_at "Mgo"
            refine e_comp (cp_bits F0) ?_
            wtm_at "Mgo"
            obtain ⟨sll, msl, hsll, hsld⟩ := Ptw.slots
            refine co_list (l := sll) (P := Led) (fun p ρ => (ma, .dct (memD mm')) :: (p ++ ρ)) (fun i p ys => Vecs p ys ((List.range i).map fun j => at_ T' (9 + j))) _ [] (vx := fun v => [none, some v, none]) F0 (cp_bits F0) R.hd (fun p ρ => by simp) (by wtm_at "Msb") (fun p => by wtm_at "Mmem") Vecs.nil (fun v => .there .here) (by omega) ?_ ?_
            · intro k v p ys ρ2 C5 hv hyl hinv hρ2 hC2m Fc
              have hk2 : k < 2 := by
                have := (List.getElem?_eq_some_iff.mp hv).1
                omega
              have ev : v = .ref (ad as (9 + k)) := by
                rw [hsld k (by omega)] at hv
                exact (Option.some.inj hv).symm
              subst ev
              have mz : (ad as (9 + k), MO.lst (bl (at_ T' (9 + k)))) ∈ zl as T' := (zl_up [] (ad_get (by rw [Ptw.len]; omega)) (at_get (by rw [hOk'.len]; omega))).mem
              have mz2 := hρ2 (ad as (9 + k), .lst (bl (at_ T' (9 + k)))) (by wtm_at "Mmem")
              have hwl := hOk'.wl (9 + k) (by omega) (by omega)
              have := hwk (9 + k) (by omega)
              wtm_at "Mgo"
              refine c_made G (R.less (by decide)) (bits := at_ T' (9 + k)) (by wtm_at "Mmem") (hOk'.bits (9 + k)) (by omega) fun r => ?_
              refine ⟨(r, .tup (tv (at_ T' (9 + k)))) :: p, ?_, by wtm_at "Msb"⟩
              rw [List.range_succ, List.map_append]
              exact (hinv.mono (in_cons _)).snoc (.head _)
            · intro p5 ys5 D5 C5 hyl5 hinv5
              rw [hsll] at hinv5
              refine ⟨_, (_, _), rfl, ?_⟩
              dsimp only
              have hfv : Vecs (nw1 ++ (nw ++ τ)) fv' ((List.range 2).map fun j => at_ T' (9 + j)) := by
                refine ⟨by rw [S2.fl]; rfl, fun i l e => ?_⟩
                have hi := (List.getElem?_eq_some_iff.mp e).1
                simp only [List.length_map, List.length_range] at hi
                rw [List.getElem?_map, List.getElem?_range hi] at e
                cases e
                exact S2.fr i hi
              refine o_nev (a := fr) (b := D5) (vs := fv') (ws := ys5) (ns := ((List.range 2).map fun j => at_ T' (9 + j)).map made) (ms := ((List.range 2).map fun j => at_ T' (9 + j)).map made) (by show _ < 9900; omega) (by wtm_at "Mmem") (vl_of (hfv.mono fun z hz => by
                rcases List.mem_append.mp hz with hz | hz
                · wtm_at "Mmem"
                · rcases List.mem_append.mp hz with hz | hz
                  · wtm_at "Mmem"
                  · have hz := hρ z hz
                    wtm_at "Mmem")) (by wtm_at "Mmem") (vl_of (hinv5.mono fun z hz => by wtm_at "Mmem")) ?_
              refine tv_false (by simp) ?_
              clear hinv5 hyl5
              with_reducible wtm_at "Mstep"
              with_reducible wtm_at "Mstep"
              refine x_comp (cp_one rfl rfl (by decide) (by decide) (by decide)) (swaps_true F0 (by wtm_at "Mkd") rfl (by decide +kernel)) ?_
              wtm_at "Mgo"
              refine co_list (l := bl val) (P := Unit) (fun _ ρ => (vli, .lst (bl val)) :: ρ) (fun i _ ys => ys = bl ((val.take i).map (3 - ·))) _ () (vx := fun v => [none, some v]) F0 (cp_one rfl rfl (by decide) (by decide) (by decide)) R.hd (fun _ _ => rfl) (by wtm_at "Msb") (fun _ => .head _) rfl (fun v => .there .here) (by rw [bl_len]; omega) ?_ ?_
              · intro k v p ys ρ2 C6 hv hyl hinv hρ2 hC2m Fc
                subst hinv
                obtain ⟨b, hb, rfl⟩ : ∃ b, val[k]? = some b ∧ v = .int (b : Int) := by
                  unfold bl at hv
                  rw [List.getElem?_map, Option.map_eq_some_iff] at hv
                  obtain ⟨b, h1, h2⟩ := hv
                  exact ⟨b, h1, h2.symm⟩
                have hb4 := hvb b (List.mem_of_getElem? hb)
                wtm_at "Mgo"
                refine ⟨(), ?_, Sb.same⟩
                rw [take_snoc hb, List.map_append, show (3 : Int) - (b : Int) = ((3 - b : Nat) : Int) by omega, bl_app]
                rfl
              · intro p6 ys6 D6 C6 hyl6 hinv6
                subst hinv6
                rw [bl_len, List.take_of_length_le (Nat.le_refl _)]
                wtm_at "Mgo"
                refine ⟨_, (_, _), rfl, ?_⟩
                dsimp only
                wtm_at "Mgo"
                refine' ⟨(T', val.map (3 - ·), D6, vd', mm', fv', nw1 ++ nw, _, _), ⟨?i1, ?i2, ?i3⟩, ?sb⟩
                case sb =>
                  show Sb ((L, .ns _ _) :: (D6, _) :: (va, _) :: (ma, _) :: (memL mm' ++ ((fr, _) :: (zl as T' ++ (nw1 ++ nw ++ ρ))))) _
                  rw [List.append_assoc]
                  wtm_at "Msb"
                case i1 =>
                  show StR (nw1 ++ nw ++ τ) _ _ _ _ _ _
                  rw [List.append_assoc]
                  exact S2.mono (fun z hz => hz) (by omega)
                case i2 =>
                  intro y hy
                  obtain ⟨z, _, rfl⟩ := List.mem_map.mp hy
                  omega
                case i3 => show (val.map _).length = _; rw [List.length_map]; exact hvl
  · rintro ⟨Ti, val, vli, vdi, mmi, fvi, nw, j3, j16⟩ hinv
    dsimp only
    wtm_at "Mgo"
    rfl
end
section
set_option maxRecDepth 20000
variable {c : Cx} {A : Around} {env : Env} {L : Addr} {σ : Led} {K : Frag}
theorem sum_nat : ∀ l : List Nat, (l.map Int.ofNat).sum = ((l.sum : Nat) : Int)
  | [] => rfl
  | a :: l => by rw [List.map_cons, List.sum_cons, List.sum_cons, sum_nat l]; push_cast; rfl
theorem sum_le : ∀ {ps : List Pt}, (∀ p ∈ ps, p.Ok) → sumW ps ≤ 6 * ps.length
  | [], _ => by simp [sumW]
  | p :: ps, h => by
    have h1 := (h p (.head _)).w2
    have h2 := sum_le (ps := ps) fun q hq => h q (.tail _ hq)
    simp only [sumW, List.map_cons, List.sum_cons, List.length_cons] at h2 ⊢
    omega
theorem law_late (G : Ps c K) (R : Rm A 10) (F0 : FrOk env L nm_law) {cr cwi cs cwo : Addr} (C : Cl env cr cwi cs cwo) {τ : Led} {x sl va ma cx fr ha wda sla ra wia : Addr} {as : List Addr} {ws row : List Nat} {fv : List AV} {n : Nat} {vd : List (Int × AV)} {mm : Option (Addr × List (Int × AV))} {T : Tr} {i0 i2 i3 i5 i9 : Option AV}
    (Pwd : Wd τ x sl va ma ws) (Pcw : Cw τ cx x fr) (Ptw : Tw τ as ha wda sla) (Pc1 : (cs, MO.cel (some (.ref x))) ∈ τ) (Pc2 : (cwo, MO.cel (some (.ref wda))) ∈ τ) (Pc3 : (cr, MO.cel (some (.ref ra))) ∈ τ) (Pc4 : (cwi, MO.cel (some (.ref wia))) ∈ τ) (Pws : (wia, MO.lst (bl ws)) ∈ τ) (P512 : ws.getD 5 0 = 4 ∧ ws.getD 6 0 = 2)
    (S : StR τ ws vd mm fv T n) (hn : n ≤ 20) (hrow : RowOk row) :
    LX c A env 14 ((L, .ns nm_law [i0, none, i2, i3, none, i5, none, some (.ref ha), none, i9, some (.ref sla), some (.ref cx), none, none, none, none, none]) :: (ra, .lst (bl row)) :: (va, .dct vd) :: (ma, .dct (memD mm)) :: (memL mm ++ ((fr, .lst fv) :: (zl as T ++ τ)))) := by
  unfold LX
  have hC1 := C.store
  have hC2 := C.words
  have hC3 := C.row
  have hC4 := C.widths
  refine x_cons ?_
  refine x_comp (cp_part3 F0 (by wtm_at "Mkd") hC3 (by wtm_at "Mkd") hC4) (swaps_true F0 (by wtm_at "Mkd") rfl (by decide +kernel)) ?_
  wtm_at "Mgo"
  refine Call.sb (σ' := (ra, .lst (bl row)) :: _) (by wtm_at "Msb") ?_
  refine c_next G (R.less (by decide)) hrow fun n1 row1 hn1 hr1 => ?_
  wtm_at "Mgo"
  refine o_modL 5 rfl (by decide) ?_
  wtm_at "Mgo"
  rw [show (1 : Int) + ((n1 % 5 : Nat) : Int) = ((1 + n1 % 5 : Nat) : Int) by push_cast; rfl]
  intro rg
  refine co_rng (x0 := 0) (y0 := ((1 + n1 % 5 : Nat) : Int)) (P := List Nat × Led) (fun p ρ => (ra, .lst (bl p.1)) :: (p.2 ++ ρ)) (fun i p ys => RowOk p.1 ∧ ∃ ps, All2 (PtAt p.2) ys ps ∧ (∀ p ∈ ps, Pt.Ok p) ∧ ps.length = i) _ (row1, []) (vx := fun v => [none, some v, none, none, none]) F0 (cp_part3 F0 (by wtm_at "Mkd") hC3 (by wtm_at "Mkd") hC4) R.hd (by omega) (fun p ρ => by simp) (by wtm_at "Msb") ⟨hr1, [], trivial, (fun p hp => by cases hp), rfl⟩ (fun v => .there .here) ?_ ?_
  · intro k p ys ρ2 C2 hk hyl hinv hρ2 hC2m Fc
    obtain ⟨rowk, nw⟩ := p
    obtain ⟨hrk, ps, ha1, ha2, ha3⟩ := hinv
    dsimp only at hrk ha1 ⊢
    have c3' := hρ2 (cr, .cel (some (.ref ra))) (by wtm_at "Mmem")
    have c4' := hρ2 (cwi, .cel (some (.ref wia))) (by wtm_at "Mmem")
    have mw' := hρ2 (wia, .lst (bl ws)) (by wtm_at "Mmem")
    wtm_at "Mgo"
    refine e_cell Fc (by wtm_at "Mkd") rfl (by wtm_at "Mmem") ?_
    wtm_at "Mgo"
    refine e_cell Fc (by wtm_at "Mkd") rfl (by wtm_at "Mmem") ?_
    wtm_at "Mgo"
    refine c_part G (R.less (by decide)) hrk (ws := ws) (by wtm_at "Mmem") Pwd.len Pwd.lo fun v p nw1 row2 hp1 hp2 hp3 => ?_
    refine ⟨(row2, nw1 ++ nw), ⟨hp3, ps ++ [p], (ha1.mono fun _ _ h => h.mono (in_app _)).app (All2.one (hp2.mono fun z hz => List.mem_append_left _ hz)), fun q hq => ?_, by simp [ha3]⟩, ?_⟩
    · rcases List.mem_append.mp hq with hq | hq
      · exact ha2 q hq
      · rw [List.mem_singleton.mp hq]; exact hp1
    · show Sb ((ra, _) :: (nw1 ++ nw ++ ρ2)) _
      rw [List.append_assoc]
      wtm_at "Msb"
  · intro p pvs pa C2 hyl hinv
    obtain ⟨row2, nw⟩ := p
    obtain ⟨hr2, ps, ha1, ha2, ha3⟩ := hinv
    dsimp only at hr2 ha1 ⊢
    have hpsl : ps.length ≤ 5 := by
      rw [ha3]; omega
    have hsl := sum_le ha2
    wtm_at "Mgo"
    refine ⟨_, (_, _), rfl, ?_⟩
    dsimp only
    wtm_at "Mgo"
    refine e_comp (cp_one rfl rfl (by decide) (by decide) (by decide)) ?_
    wtm_at "Mgo"
    refine co_list (l := pvs) (P := Unit) (fun _ ρ => (pa, .lst pvs) :: ρ) (fun i _ ys => ys = bl ((ps.take i).map (·.w))) _ () (vx := fun v => [none, some v]) F0 (cp_one rfl rfl (by decide) (by decide) (by decide)) R.hd (fun _ _ => rfl) (by wtm_at "Msb") (fun _ => .head _) rfl (fun v => .there .here) (by have := ha1.len; omega) ?_ ?_
    · intro k v p ys ρ2 C3 hv hyl3 hinv hρ2 hC2m Fc
      subst hinv
      obtain ⟨p, hp, pp, q, wv, rfl, s1, _, _⟩ := ha1.get hv
      have s1' := hρ2 _ (show (pp, MO.tup [.str (kindS p.loc), .int (p.w : Int), .int (p.ref : Int), wv, .ref q]) ∈ _ by wtm_at "Mmem")
      wtm_at "Mgo"
      refine ⟨(), ?_, Sb.same⟩
      obtain ⟨h1, h2⟩ := List.getElem?_eq_some_iff.mp hp
      rw [bl_app, List.take_succ_eq_append_getElem h1, List.map_append, h2]
      rfl
    · intro p ys D C3 hyl3 hinv
      subst hinv
      rw [List.take_of_length_le (by rw [ha1.len]; exact Nat.le_refl _)]
      refine ⟨_, (_, _), rfl, ?_⟩
      dsimp only
      wtm_at "Mgo"
      refine b_sum (ns := (ps.map (·.w)).map Int.ofNat) R.hd (by rw [← bl_il]; wtm_at "Mmem") ?_
      rw [sum_nat]
      show Op1 c A _ _ (.int ((sumW ps : Nat) : Int)) _ _
      wtm_at "Mgo"
      refine Call.sb (σ' := (ra, .lst (bl row2)) :: _) (by wtm_at "Msb") ?_
      refine c_bits G (R.less (by decide)) hr2 (by omega) fun vl value row3 hvb hvl hr3 => ?_
      wtm_at "Mgo"
      refine e_comp (cp_src F0) ?_
      wtm_at "Mgo"
      refine co_list (l := pvs) (P := Led) (fun p ρ => (vl, .lst (bl value)) :: (p ++ ρ)) (fun i p ys => All2 (SrcAt p) ys (ps.take i)) _ [] (vx := fun v => [none, some v, none]) F0 (cp_src F0) R.hd (fun p ρ => by simp) (by wtm_at "Msb") (fun p => by wtm_at "Mmem") trivial (fun v => .there .here) (by have := ha1.len; omega) ?_ ?_
      · intro k v p ys ρ2 C4 hv hyl4 hinv hρ2 hC2m Fc
        obtain ⟨pt, hp, hpt⟩ := ha1.get hv
        have hpt' : PtAt ((vl, .lst (bl value)) :: (p ++ ρ2)) v pt := hpt.mono fun z hz => by
          have hz := hρ2 z (by wtm_at "Mmem")
          wtm_at "Mmem"
        wtm_at "Mgo"
        refine c_source G (R.less (by decide)) hpt' (ha2 pt (List.mem_of_getElem? hp)) fun v' nw2 hs => ?_
        refine ⟨nw2 ++ p, ?_, by rw [List.append_assoc]; wtm_at "Msb"⟩
        obtain ⟨h1, h2⟩ := List.getElem?_eq_some_iff.mp hp
        rw [List.take_succ_eq_append_getElem h1, h2]
        exact (hinv.mono fun _ _ h => h.mono (in_app _)).app (All2.one (hs.mono fun z hz => List.mem_append_left _ hz))
      · intro p5 svs D5 C5 hyl5 hinv5
        rw [List.take_of_length_le (by rw [ha1.len]; exact Nat.le_refl _)] at hinv5
        refine ⟨_, (_, _), rfl, ?_⟩
        dsimp only
        wtm_at "Mgo"
        refine b_tuple (l := svs) (by wtm_at "Mmem") (by have := hinv5.len; omega) fun tp => ?_
        wtm_at "Mgo"
        refine ⟨by simp, fun lv => ?_⟩
        wtm_at "Mgo"
        have hV : Vecs τ fv [at_ T 9, at_ T 10] := by
          refine ⟨by rw [S.fl]; rfl, fun i l e => ?_⟩
          match i, e with
          | 0, e => cases e; exact S.fr 0 (by omega)
          | 1, e => cases e; exact S.fr 1 (by omega)
        have hlw : ∀ i l, [at_ T 9, at_ T 10][i]? = some l → l.length = ws.getD (5 + i) 0 := fun i l e => by
          match i, e with
          | 0, e => cases e; exact (S.ok.wl 9 (by omega) (by omega)).trans (by unfold wk; rw [if_neg (by omega), if_neg (by omega)])
          | 1, e => cases e; exact (S.ok.wl 10 (by omega) (by omega)).trans (by unfold wk; rw [if_neg (by omega), if_neg (by omega)])
        refine c_resolve_target G (R.less (by decide)) (ws := ws) (ps := ps) (svs := svs) (tot := sumW ps) (Pwd.mono fun z hz => by wtm_at "Mmem") (Pcw.mono fun z hz => by wtm_at "Mmem") (by wtm_at "Mmem") (hV.mono fun z hz => by wtm_at "Mmem") rfl hlw (by wtm_at "Mmem") (by wtm_at "Mmem") (hinv5.mono fun _ _ h => h.mono fun z hz => by wtm_at "Mmem") ha2 (Nat.le_refl _) (by omega) fun rl rvs nw3 hrv => ?_
        with_reducible wtm_at "Mstep"
        refine X.sb (σ' := (L, .ns nm_law [i0, none, i2, i3, none, i5, none, some (AV.ref ha), none, i9, some (AV.ref sla), some (AV.ref cx), some (AV.ref pa), some (AV.int ((sumW ps : Nat) : Int)), some (AV.ref vl), some (AV.ref rl), none]) :: (vl, .lst (bl value)) :: (va, .dct vd) :: (ma, .dct (memD mm)) :: (memL mm ++ ((fr, .lst fv) :: (zl as T ++ ((rl, .lst rvs) :: (pa, .lst pvs) :: (nw3 ++ (nw ++ τ))))))) (by wtm_at "Msb") ?_
        refine law_turns G R F0 C (ws := ws) (pvs := pvs) (ps := ps) (tot := sumW ps) ⟨Pwd.mono fun z hz => by wtm_at "Mmem", Pcw.mono fun z hz => by wtm_at "Mmem", Ptw.mono fun z hz => by wtm_at "Mmem", by wtm_at "Mmem", by wtm_at "Mmem", by wtm_at "Mmem", ha1.mono fun _ _ h => h.mono fun z hz => by wtm_at "Mmem", ha2, by wtm_at "Mmem", hrv.mono fun _ _ h => h.mono fun z hz => by wtm_at "Mmem", rfl, hpsl, P512⟩ (S.mono (fun z hz => by wtm_at "Mmem") (Nat.le_refl _)) hn hvb hvl (by omega)
end
section
set_option maxRecDepth 20000
variable {c : Cx} {A : Around} {env : Env} {L : Addr} {σ : Led} {K : Frag}
theorem at_app (A B : Tr) (k : Nat) : at_ (A ++ B) k = if k < A.length then at_ A k else at_ B (k - A.length) := by
  unfold at_
  rw [List.getD_eq_getElem?_getD, List.getD_eq_getElem?_getD, List.getD_eq_getElem?_getD]
  split
  · rename_i h; rw [List.getElem?_append_left h]
  · rename_i h; rw [List.getElem?_append_right (by lia)]
theorem ad_app (A B : List Addr) (k : Nat) : ad (A ++ B) k = if k < A.length then ad A k else ad B (k - A.length) := by
  unfold ad
  rw [List.getD_eq_getElem?_getD, List.getD_eq_getElem?_getD, List.getD_eq_getElem?_getD]
  split
  · rename_i h; rw [List.getElem?_append_left h]
  · rename_i h; rw [List.getElem?_append_right (by lia)]
theorem zl_app {A B : List Addr} {S T : Tr} (h : A.length = S.length) : zl (A ++ B) (S ++ T) = zl A S ++ zl B T := by
  unfold zl
  rw [List.zip_append h, List.map_append]
theorem law_mid (G : Ps c K) (R : Rm A 10) (F0 : FrOk env L nm_law) {cr cwi cs cwo : Addr} (C : Cl env cr cwi cs cwo) {τ : Led} {x sl va ma ra wia : Addr} {ws row : List Nat} {i0 i2 i3 i5 : Option AV}
    (Pwd : Wd τ x sl va ma ws) (Pc1 : (cs, MO.cel (some (.ref x))) ∈ τ) (Pc3 : (cr, MO.cel (some (.ref ra))) ∈ τ) (Pc4 : (cwi, MO.cel (some (.ref wia))) ∈ τ) (Pws : (wia, MO.lst (bl ws)) ∈ τ) (P4 : ws.getD 4 0 = 3) (P512 : ws.getD 5 0 = 4 ∧ ws.getD 6 0 = 2) (hrow : RowOk row) :
    LX c A env 7 ((L, .ns nm_law [i0, none, i2, i3, none, i5, none, none, none, none, none, none, none, none, none, none, none]) :: (cwo, .cel none) :: (ra, .lst (bl row)) :: (va, .dct []) :: (ma, .dct []) :: τ) := by
  unfold LX
  have hC1 := C.store
  have hC2 := C.words
  have hC3 := C.row
  have hC4 := C.widths
  refine x_cons ?_
  wtm_at "Mgo"
  refine ⟨by decide, fun ha => ?_⟩
  wtm_at "Mgo"
  intro rg
  refine fo_rng (x := 0) (y := 4) (P := List Nat × List Addr × Tr × List (Int × AV) × Led × Option AV)
    (fun p ρ => (L, .ns nm_law [i0, none, i2, i3, none, p.2.2.2.2.2, none, some (.ref ha), none, none, none, none, none, none, none, none, none]) :: (ra, .lst (bl p.1)) :: (ha, .lst (p.2.1.map AV.ref)) :: (va, .dct p.2.2.2.1) :: (zl p.2.1 p.2.2.1 ++ (p.2.2.2.2.1 ++ ρ)))
    (fun i p => RowOk p.1 ∧ p.2.1.length = i ∧ p.2.2.1.length = i ∧ (∀ j, j < i → Bits (at_ p.2.2.1 j) ∧ (at_ p.2.2.1 j).length = ws.getD j 0) ∧ (∀ k : Nat, k < 4 → VOk p.2.2.2.2.1 (dget p.2.2.2.1 k) (if k < i then at_ p.2.2.1 k else List.replicate (ws.getD k 0) 3)) ∧ p.2.2.2.1.length ≤ i)
    _ (row, [], [], [], [], i5) R.hd (by decide) (fun p ρ => by simp) (by show Sb (_ :: _ :: _ :: _ :: _ :: ([] ++ ([] ++ _))) _; simp only [List.nil_append]; wtm_at "Msb") ⟨hrow, rfl, rfl, (fun j hj => by lia), (fun k hk => .inr ⟨rfl, by simp⟩), Nat.le_refl _⟩ ?_ ?_
  · intro i p ρ hi hinv hρ hsb_
    obtain ⟨rowi, as, T, vd, nw, jk⟩ := p
    obtain ⟨g1, g2, g3, g4, g5, g6⟩ := hinv
    dsimp only at g1 g2 g3 g4 g5 g6 ⊢
    have hi4 : i < 4 := by lia
    have Pwd' := Pwd.mono fun z hz => hρ z (by wtm_at "Mmem")
    have Pc1' := hρ _ (show (cs, MO.cel (some (.ref x))) ∈ _ by wtm_at "Mmem")
    have Pc3' := hρ _ (show (cr, MO.cel (some (.ref ra))) ∈ _ by wtm_at "Mmem")
    have Pc4' := hρ _ (show (cwi, MO.cel (some (.ref wia))) ∈ _ by wtm_at "Mmem")
    have Pws' := hρ _ (show (wia, MO.lst (bl ws)) ∈ _ by wtm_at "Mmem")
    obtain ⟨st, st1, st2⟩ := Pwd'.sx
    simp only [Int.zero_add]
    have hwl := Pwd.lo i (by lia)
    have hwi : ws[i]? = some (ws.getD i 0) := by rw [List.getD_eq_getElem?_getD, List.getElem?_eq_getElem (by rw [Pwd.len]; lia)]; rfl
    generalize hwd : ws.getD i 0 = w at hwl hwi
    wtm_at "Mgo"
    refine u_list (by wtm_at "Mmem") (by lia) (by lia) (by rw [Int.toNat_natCast]; exact bl_get hwi) ?_
    wtm_at "Mgo"
    refine Call.sb (σ' := (ra, .lst (bl rowi)) :: _) (by wtm_at "Msb") ?_
    refine c_bits G (R.less (by decide)) g1 (by lia) fun b bits row2 hb hbl hr2 => ?_
    wtm_at "Mgo"
    refine b_append (by wtm_at "Mup") (by simp; lia) ?_
    wtm_at "Mgo"
    refine u_list (by wtm_at "Mmem") (by lia) (by lia) (v := .ref b) (by rw [Int.toNat_natCast, ← g2]; simp) ?_
    wtm_at "Mgo"
    refine c_made G (R.less (by decide)) (bits := bits) (by wtm_at "Mmem") hb (by lia) fun vt => ?_
    wtm_at "Mgo"
    refine Call.sb (σ' := (va, .dct vd) :: _) (by wtm_at "Msb") ?_
    have hVi := g5 i hi4
    rw [if_neg (Nat.lt_irrefl i), hwd] at hVi
    have hput : put (List.replicate w 3) 0 bits = bits := put_all (by rw [List.length_replicate, hbl])
    refine c_set_sig G (R.less (by decide)) (k := i) (l := List.replicate w 3) (pc := bits) (lo := 0) (Pwd'.mono fun z hz => by wtm_at "Mmem") hi4 (hVi.mono fun z hz => by wtm_at "Mmem") (by rw [List.length_replicate, hwd]) (by lia) (fun y hy => by rw [List.eq_of_mem_replicate hy]; decide) hb (by wtm_at "Mmem") (by lia) (by rw [List.length_replicate]; lia) (by lia) (by lia) fun nw1 vd' hd1 hd2 hd3 => ?_
    rw [hput] at hd2
    wtm_at "Mgo"
    have hTl : (T ++ [bits]).length = i + 1 := by simp [g3]
    refine' ⟨(row2, as ++ [b], T ++ [bits], vd', nw1 ++ nw, _), ⟨hr2, by simp [g2], hTl, ?i1, ?i2, by dsimp only; lia⟩, ?sb⟩
    case sb =>
      show Sb ((L, .ns _ _) :: (ra, _) :: (ha, .lst ((as ++ [b]).map AV.ref)) :: (va, _) :: (zl (as ++ [b]) (T ++ [bits]) ++ ((nw1 ++ nw) ++ ρ))) _
      rw [zl_app (by rw [g2, g3]), List.map_append]
      show Sb (_ :: _ :: (ha, .lst (as.map AV.ref ++ [AV.ref b])) :: _ :: ((zl as T ++ [(b, .lst (bl bits))]) ++ ((nw1 ++ nw) ++ ρ))) _
      simp only [List.append_assoc, List.cons_append, List.nil_append]
      wtm_at "Msb"
    case i1 =>
      intro j hj
      show Bits (at_ (T ++ [bits]) j) ∧ (at_ (T ++ [bits]) j).length = _
      rw [at_app]
      by_cases q : j < i
      · rw [if_pos (by lia)]; exact g4 j q
      · have : j = i := by lia
        subst this
        rw [if_neg (by lia), g3, Nat.sub_self]
        exact ⟨hb, hbl.trans hwd.symm⟩
    case i2 =>
      intro k hk
      show VOk (nw1 ++ nw) (dget vd' k) (if k < i + 1 then at_ (T ++ [bits]) k else _)
      by_cases q : k = i
      · subst q
        rw [if_pos (by lia), at_app, if_neg (by lia), g3, Nat.sub_self]
        exact hd2 nw hVi
      · rw [hd1 k (by lia)]
        have := (g5 k hk).mono (in_app nw1)
        by_cases q2 : k < i
        · rw [if_pos q2] at this
          rw [if_pos (by lia), at_app, if_pos (by lia)]
          exact this
        · rw [if_neg q2] at this
          rw [if_neg (by lia)]
          exact this
  · rintro ⟨row, as0, T0, vd, nw0, jk⟩ ⟨g1, g2, g3, g4, g5, g6⟩
    have e4 : ((4 : Int) - 0).toNat = 4 := rfl
    rw [e4] at g2 g3 g4 g5 g6
    dsimp only at g1 g2 g3 g4 g5 g6 ⊢
    wtm_at "Mgo"
    refine ⟨by decide, fun b4 => ?_⟩
    wtm_at "Mgo"
    refine b_append (by wtm_at "Mup") (by simp; lia) ?_
    wtm_at "Mgo"
    intro wda
    wtm_at "Mgo"
    intro rg2
    refine fo_rng (x := 1) (y := 5) (P := List Nat × List Addr × Tr × List (Int × AV) × Option (Addr × List (Int × AV)) × Led × Option AV)
      (fun p ρ => (L, .ns nm_law [i0, none, i2, i3, none, jk, none, some (.ref ha), none, p.2.2.2.2.2.2, none, none, none, none, none, none, none]) :: (ra, .lst (bl p.1)) :: (wda, .dct p.2.2.2.1) :: (ma, .dct (memD p.2.2.2.2.1)) :: (memL p.2.2.2.2.1 ++ (zl p.2.1 p.2.2.1 ++ (p.2.2.2.2.2.1 ++ ρ))))
      (fun i p => RowOk p.1 ∧ p.2.1.length = i ∧ p.2.2.1.length = i ∧ (∀ j, j < i → Bits (at_ p.2.2.1 j) ∧ (at_ p.2.2.1 j).length = 3) ∧ (∀ k : Nat, k < 4 → VOk p.2.2.2.2.2.1 (memG p.2.2.2.2.1 k) (if k < i then at_ p.2.2.1 k else List.replicate 3 3)) ∧ (∀ wm d, p.2.2.2.2.1 = some (wm, d) → d.length ≤ i) ∧ (∀ j : Nat, j < i → dget p.2.2.2.1 ((j : Int) + 1) = some (.ref (ad p.2.1 j))) ∧ p.2.2.2.1.length ≤ i)
      _ (row, [], [], [], none, [], none) R.hd (by decide) (fun p ρ => by simp) (by show Sb (_ :: _ :: _ :: _ :: _ :: ([] ++ ([] ++ ([] ++ _)))) _; simp only [List.nil_append]; wtm_at "Msb") ⟨g1, rfl, rfl, (fun j hj => by lia), (fun k hk => .inr ⟨rfl, by simp⟩), (fun wm d e => by cases e), (fun j hj => by lia), Nat.le_refl _⟩ ?_ ?_
    · intro i p ρ hi hinv hρ hsb_
      obtain ⟨rowi, as, T, wd, mm, nw, jk2⟩ := p
      obtain ⟨q1, q2, q3, q4, q5, q6, q7, q8⟩ := hinv
      dsimp only at q1 q2 q3 q4 q5 q6 q7 q8 ⊢
      have hi4 : i < 4 := by lia
      have Pwd' := Pwd.mono fun z hz => hρ z (by wtm_at "Mmem")
      have Pc1' := hρ _ (show (cs, MO.cel (some (.ref x))) ∈ _ by wtm_at "Mmem")
      have Pc2' := hρ _ (show (cwo, MO.cel (some (.ref wda))) ∈ _ by wtm_at "Mmem")
      have Pc3' := hρ _ (show (cr, MO.cel (some (.ref ra))) ∈ _ by wtm_at "Mmem")
      obtain ⟨st, st1, st2⟩ := Pwd'.sx
      wtm_at "Mgo"
      refine Call.sb (σ' := (ra, .lst (bl rowi)) :: _) (by wtm_at "Msb") ?_
      refine c_bits G (R.less (by decide)) (wide := 3) q1 (by lia) fun b bits row2 hb hbl hr2 => ?_
      wtm_at "Mgo"
      refine si_dct (by wtm_at "Mup") (by lia) ?_
      wtm_at "Mgo"
      refine u_dct (by wtm_at "Mmem") (v := .ref b) (by rw [dget_put, if_pos rfl]) ?_
      wtm_at "Mgo"
      refine c_made G (R.less (by decide)) (bits := bits) (by wtm_at "Mmem") hb (by lia) fun vt => ?_
      wtm_at "Mgo"
      rw [show (1 : Int) + (i : Int) - 1 = (i : Int) by lia]
      refine Call.sb (σ' := (ma, .dct (memD mm)) :: (memL mm ++ _)) (by wtm_at "Msb") ?_
      have hVi := q5 i hi4
      rw [if_neg (Nat.lt_irrefl i)] at hVi
      have hput : put (List.replicate 3 3) 0 bits = bits := put_all (by rw [List.length_replicate, hbl])
      refine c_set_word G (R.less (by decide)) (j := i) (l := List.replicate 3 3) (pc := bits) (lo := 0) (Pwd'.mono fun z hz => by wtm_at "Mmem") hi4 (hVi.mono fun z hz => by wtm_at "Mmem") (by rw [List.length_replicate, P4]) (fun wm d e => by have := q6 wm d e; lia) (fun y hy => by rw [List.eq_of_mem_replicate hy]; decide) hb (by wtm_at "Mmem") (by lia) (by rw [List.length_replicate]; lia) (by lia) (by lia) fun nw1 mm1 hd1 hd2 hd3 => ?_
      rw [hput] at hd2
      wtm_at "Mgo"
      have hTl : (T ++ [bits]).length = i + 1 := by simp [q3]
      refine' ⟨(row2, as ++ [b], T ++ [bits], dput wd (1 + (i : Int)) (.ref b), mm1, nw1 ++ nw, _), ⟨hr2, by simp [q2], hTl, ?i1, ?i2, hd3 i q6, ?i3, Nat.le_trans (dput_len ..) (Nat.succ_le_succ q8)⟩, ?sb⟩
      case sb =>
        show Sb ((L, .ns _ _) :: (ra, _) :: (wda, _) :: (ma, _) :: (memL mm1 ++ (zl (as ++ [b]) (T ++ [bits]) ++ ((nw1 ++ nw) ++ ρ)))) _
        rw [zl_app (by rw [q2, q3])]
        show Sb (_ :: _ :: _ :: _ :: (memL mm1 ++ ((zl as T ++ [(b, .lst (bl bits))]) ++ ((nw1 ++ nw) ++ ρ)))) _
        simp only [List.append_assoc, List.cons_append, List.nil_append]
        wtm_at "Msb"
      case i1 =>
        intro j hj
        show Bits (at_ (T ++ [bits]) j) ∧ (at_ (T ++ [bits]) j).length = _
        rw [at_app]
        by_cases q : j < i
        · rw [if_pos (by lia)]; exact q4 j q
        · have : j = i := by lia
          subst this
          rw [if_neg (by lia), q3, Nat.sub_self]
          exact ⟨hb, hbl⟩
      case i2 =>
        intro k hk
        show VOk (nw1 ++ nw) (memG mm1 k) (if k < i + 1 then at_ (T ++ [bits]) k else _)
        by_cases q : k = i
        · subst q
          rw [if_pos (by lia), at_app, if_neg (by lia), q3, Nat.sub_self]
          exact hd2 nw hVi
        · rw [hd1 k (by lia)]
          have := (q5 k hk).mono (in_app nw1)
          by_cases q2' : k < i
          · rw [if_pos q2'] at this
            rw [if_pos (by lia), at_app, if_pos (by lia)]
            exact this
          · rw [if_neg q2'] at this
            rw [if_neg (by lia)]
            exact this
      case i3 =>
        intro j hj
        show dget (dput wd (1 + (i : Int)) (.ref b)) ((j : Int) + 1) = some (.ref (ad (as ++ [b]) j))
        rw [dget_put, ad_app]
        by_cases q : j < i
        · rw [if_neg (by lia), if_pos (by lia)]; exact q7 j q
        · have : j = i := by lia
          subst this
          rw [if_pos (by lia), if_neg (by lia), q2, Nat.sub_self]
          rfl
    · rintro ⟨row, as1, T1, wd, mm, nw1, jk2⟩ ⟨q1, q2, q3, q4, q5, q6, q7, q8⟩
      have e4 : ((5 : Int) - 1).toNat = 4 := rfl
      rw [e4] at q2 q3 q4 q5 q6 q7 q8
      dsimp only at q1 q2 q3 q4 q5 q6 q7 q8 ⊢
      wtm_at "Mgo"
      refine Call.sb (σ' := (ra, .lst (bl row)) :: _) (by wtm_at "Msb") ?_
      refine c_bits G (R.less (by decide)) (wide := 4) q1 (by lia) fun b9 s9 row2 hb9 hl9 hr2 => ?_
      wtm_at "Mgo"
      refine Call.sb (σ' := (ra, .lst (bl row2)) :: _) (by wtm_at "Msb") ?_
      refine c_bits G (R.less (by decide)) (wide := 2) hr2 (by lia) fun b10 s10 row3 hb10 hl10 hr3 => ?_
      wtm_at "Mgo"
      refine ⟨by simp, fun sla => ?_⟩
      wtm_at "Mgo"
      refine e_comp (cp_bits F0) ?_
      wtm_at "Mgo"
      refine co_list (l := [.ref b9, .ref b10]) (P := Led) (fun p ρ => (sla, .lst [.ref b9, .ref b10]) :: (p ++ ρ)) (fun i p ys => Vecs p ys ([s9, s10].take i)) _ [] (vx := fun v => [none, some v, none]) F0 (cp_bits F0) R.hd (fun p ρ => by simp) (by wtm_at "Msb") (fun p => .head _) Vecs.nil (fun v => .there .here) (by simp) ?_ ?_
      · intro k v p ys ρ2 C5 hv hyl hinv hρ2 hC2m Fc
        have hcase : (k = 0 ∧ v = .ref b9) ∨ (k = 1 ∧ v = .ref b10) := by
          match k, hv with
          | 0, hv => cases hv; exact .inl ⟨rfl, rfl⟩
          | 1, hv => cases hv; exact .inr ⟨rfl, rfl⟩
        have m9 := hρ2 (b9, .lst (bl s9)) (by wtm_at "Mmem")
        have m10 := hρ2 (b10, .lst (bl s10)) (by wtm_at "Mmem")
        rcases hcase with ⟨rfl, rfl⟩ | ⟨rfl, rfl⟩
        · wtm_at "Mgo"
          refine c_made G (R.less (by decide)) (bits := s9) (by wtm_at "Mmem") hb9 (by lia) fun r => ?_
          exact ⟨(r, .tup (tv s9)) :: p, (hinv.mono (in_cons _)).snoc (.head _), by wtm_at "Msb"⟩
        · wtm_at "Mgo"
          refine c_made G (R.less (by decide)) (bits := s10) (by wtm_at "Mmem") hb10 (by lia) fun r => ?_
          exact ⟨(r, .tup (tv s10)) :: p, (hinv.mono (in_cons _)).snoc (.head _), by wtm_at "Msb"⟩
      · intro pf fv fr C5 hyl hinv
        refine ⟨_, (_, _), rfl, ?_⟩
        dsimp only
        wtm_at "Mgo"
        refine c_Context G (R.less (by decide)) fun cx cd => ?_
        with_reducible wtm_at "Mstep"
        generalize hT : T0 ++ ([[]] ++ (T1 ++ [s9, s10])) = T
        generalize has : as0 ++ ([b4] ++ (as1 ++ [b9, b10])) = as
        have hTl : T.length = 11 := by rw [← hT]; simp [g3, q3]
        have hasl : as.length = 11 := by rw [← has]; simp [g2, q2]
        have t0 : ∀ k, k < 4 → at_ T k = at_ T0 k := fun k hk => by rw [← hT, at_app, if_pos (by lia)]
        have t4 : at_ T 4 = [] := by rw [← hT, at_app, if_neg (by lia), g3]; rfl
        have t5 : ∀ j, j < 4 → at_ T (5 + j) = at_ T1 j := fun j hj => by
          rw [← hT, at_app, if_neg (by lia), g3, at_app, if_neg (by simp; lia), List.length_singleton, show 5 + j - 4 - 1 = j by lia, at_app, if_pos (by lia)]
        have t9 : at_ T 9 = s9 := by
          rw [← hT, at_app, if_neg (by lia), g3, at_app, if_neg (by simp), List.length_singleton, at_app, if_neg (by lia), q3]; rfl
        have t10 : at_ T 10 = s10 := by
          rw [← hT, at_app, if_neg (by lia), g3, at_app, if_neg (by simp), List.length_singleton, at_app, if_neg (by lia), q3]; rfl
        have a0 : ∀ k, k < 4 → ad as k = ad as0 k := fun k hk => by rw [← has, ad_app, if_pos (by lia)]
        have a4 : ad as 4 = b4 := by rw [← has, ad_app, if_neg (by lia), g2]; rfl
        have a5 : ∀ j, j < 4 → ad as (5 + j) = ad as1 j := fun j hj => by
          rw [← has, ad_app, if_neg (by lia), g2, ad_app, if_neg (by simp; lia), List.length_singleton, show 5 + j - 4 - 1 = j by lia, ad_app, if_pos (by lia)]
        have a9 : ad as 9 = b9 := by
          rw [← has, ad_app, if_neg (by lia), g2, ad_app, if_neg (by simp), List.length_singleton, ad_app, if_neg (by lia), q2]; rfl
        have a10 : ad as 10 = b10 := by
          rw [← has, ad_app, if_neg (by lia), g2, ad_app, if_neg (by simp), List.length_singleton, ad_app, if_neg (by lia), q2]; rfl
        have hz : zl as T = zl as0 T0 ++ ((b4, MO.lst []) :: (zl as1 T1 ++ [(b9, MO.lst (bl s9)), (b10, MO.lst (bl s10))])) := by
          rw [← hT, ← has, zl_app (by rw [g2, g3]), zl_app (A := [b4]) (S := [[]]) rfl, zl_app (by rw [q2, q3])]
          rfl
        have hOk : TOk ws T := by
          refine ⟨hTl, fun k => ?_, fun k hk hk4 => ?_⟩
          · by_cases c1 : k < 4
            · rw [t0 k c1]; exact (g4 k c1).1
            · by_cases c2 : k = 4
              · rw [c2, t4]; intro y hy; cases hy
              · by_cases c3 : k < 9
                · obtain ⟨j, rfl⟩ : ∃ j, k = 5 + j := ⟨k - 5, by lia⟩
                  rw [t5 j (by lia)]; exact (q4 j (by lia)).1
                · by_cases c4 : k = 9
                  · rw [c4, t9]; exact hb9
                  · by_cases c5 : k = 10
                    · rw [c5, t10]; exact hb10
                    · unfold at_
                      rw [List.getD_eq_getElem?_getD, List.getElem?_eq_none (by lia)]
                      intro y hy; cases hy
          · unfold wk
            by_cases c1 : k < 4
            · rw [t0 k c1, if_pos c1]; exact (g4 k c1).2
            · rw [if_neg c1]
              by_cases c3 : k < 9
              · obtain ⟨j, rfl⟩ : ∃ j, k = 5 + j := ⟨k - 5, by lia⟩
                rw [t5 j (by lia), if_pos c3, P4]; exact (q4 j (by lia)).2
              · rw [if_neg c3]
                by_cases c4 : k = 9
                · rw [c4, t9, hl9]; exact P512.1.symm
                · have c5 : k = 10 := by lia
                  rw [c5, t10, hl10]; exact P512.2.symm
        have hVf : Vecs pf fv [s9, s10] := hinv
        refine X.sb (σ' := (L, .ns nm_law [i0, none, i2, i3, none, jk, none, some (.ref ha), none, jk2, some (.ref sla), some (.ref cx), none, none, none, none, none]) :: (ra, .lst (bl row3)) :: (va, .dct vd) :: (ma, .dct (memD mm)) :: (memL mm ++ ((fr, .lst fv) :: (zl as T ++ ((cx, .ins 736 cd) :: (cd, .fld (ctF x fr)) :: (sla, .lst [.ref b9, .ref b10]) :: (ha, .lst (as0.map AV.ref ++ [.ref b4])) :: (wda, .dct wd) :: (cwo, .cel (some (.ref wda))) :: (pf ++ (nw1 ++ (nw0 ++ τ)))))))) (by
          rw [hz]
          simp only [List.append_assoc, List.cons_append, List.nil_append]
          wtm_at "Msb") ?_
        refine law_late G R F0 C (as := as) (T := T) (n := 4) (Pwd.mono fun z hz => by wtm_at "Mmem") ⟨⟨cd, by wtm_at "Mmem", by wtm_at "Mmem"⟩⟩ ⟨hasl, ⟨_, by wtm_at "Mmem", by simp [g2], fun k hk => ?_⟩, ⟨wd, by wtm_at "Mmem", fun j hj => by rw [q7 j hj, a5 j hj]⟩, ⟨_, by wtm_at "Mmem", rfl, fun i hi => ?_⟩⟩ (by wtm_at "Mmem") (by wtm_at "Mmem") (by wtm_at "Mmem") (by wtm_at "Mmem") (by wtm_at "Mmem") P512
          ⟨hOk, fun k hk => ?_, fun j hj => ?_, by rw [hVf.1]; rfl, fun i hi => ?_, g6, q6⟩ (by decide) hr3
        · by_cases q : k < 4
          · rw [List.getElem?_append_left (by simp; lia), List.getElem?_map, ad_get (by lia), a0 k q]; rfl
          · have : k = 4 := by lia
            subst this
            rw [List.getElem?_append_right (by simp; lia), a4]
            simp [g2]
        · match i, hi with
          | 0, _ => show some (AV.ref b9) = _; rw [a9]
          | 1, _ => show some (AV.ref b10) = _; rw [a10]
        · have := g5 k hk
          rw [if_pos hk] at this
          rw [t0 k hk]
          exact this.mono fun z hz => by wtm_at "Mmem"
        · have := q5 j hj
          rw [if_pos hj] at this
          rw [t5 j hj]
          exact this.mono fun z hz => by wtm_at "Mmem"
        · match i, hi with
          | 0, _ =>
            obtain ⟨t, h1, h2⟩ := hVf.2 0 s9 rfl
            exact ⟨t, h1, by rw [t9]; wtm_at "Mmem"⟩
          | 1, _ =>
            obtain ⟨t, h1, h2⟩ := hVf.2 1 s10 rfl
            exact ⟨t, h1, by rw [t10]; wtm_at "Mmem"⟩
end
section
set_option maxRecDepth 20000
variable {c : Cx} {A : Around} {env : Env} {L : Addr} {σ : Led} {K : Frag}
theorem up_of_mem {l : Led} {a : Addr} {o : MO} (o' : MO) (h : (a, o) ∈ l) : ∃ l', Up a o o' l l' := by
  induction l with
  | nil => cases h
  | cons p l ih =>
    rcases List.mem_cons.mp h with e | h
    · subst e; exact ⟨_, .here⟩
    · obtain ⟨l', U⟩ := ih h
      exact ⟨_, .there U⟩
theorem Up.new {a : Addr} {o o' : MO} {σ σ' : Led} (U : Up a o o' σ σ') : (a, o') ∈ σ' := by
  obtain ⟨l, r, rfl, rfl⟩ := U.split; simp
theorem sig_head (k w : Nat) (pth : Str) (m : Bool) : (sigF k w pth m).head? = some (Str.ofString "key", AV.int (k : Int)) := rfl
theorem sig_head1 (k w : Nat) (pth : Str) (m : Bool) (v : AV) : (fput (sigF k w pth m) (Str.ofString "first") v).head? = some (Str.ofString "key", AV.int (k : Int)) := by kernel_rfl
theorem sig_both (k w : Nat) (pth : Str) : fput (fput (sigF k w pth false) (Str.ofString "first") (.int 1)) (Str.ofString "last") (.int 4) = sigF k w pth true := by kernel_rfl
theorem head_ne {k k' : Nat} {r r' : List (Str × AV)} (h : r.head? = some (Str.ofString "key", AV.int (k : Int))) (h' : r'.head? = some (Str.ofString "key", AV.int (k' : Int))) (hne : k ≠ k') : r ≠ r' := by
  intro e
  subst e
  rw [h] at h'
  simp only [Option.some.injEq, Prod.mk.injEq, true_and, AV.int.injEq] at h'
  exact hne (by omega)
theorem c_law (G : Ps c K) (F : FnAt c 820 (st 95)) (R : Rm A 11) {s : Addr} {ns : List Int} (hs : BL c s (il ns)) (hl : ns.length ≤ 1000) : Call c A (.ref 820) [.ref s] [] (fun v _ => v = .bool true) := by
  refine call_cl (k := 16) (fun _ => none) G.toGd F ok_law rfl R.room (fun n p hp => .inr ⟨?_, rfl⟩) fun L env F0 hc => ?_
  · simp only [cf_law, List.mem_cons, List.not_mem_nil, or_false] at hp
    rcases hp with rfl | rfl | rfl | rfl
    · exact (by decide : Str.ofString "words" ∉ (nm_law.take 1).map (·.1))
    · exact (by decide : Str.ofString "store" ∉ (nm_law.take 1).map (·.1))
    · exact (by decide : Str.ofString "widths" ∉ (nm_law.take 1).map (·.1))
    · exact (by decide : Str.ofString "row" ∉ (nm_law.take 1).map (·.1))
  have R' := R.deeper (env := env)
  rw [show locV nm_law [AV.ref s] ++ noneV 16 = [some (AV.ref s), none, none, none, none, none, none, none, none, none, none, none, none, none, none, none, none] from rfl]
  have C : Cl env (L + 1) (L + 1 + 1) (L + 1 + 2) (L + 1 + 3) := ⟨by rw [hc]; rfl, by rw [hc]; rfl, by rw [hc]; rfl, by rw [hc]; rfl⟩
  clear hc
  simp only [cf_law, List.map_cons, List.map_nil, List.cons_append, List.nil_append]
  generalize L + 1 + 3 = cwo at C ⊢
  generalize L + 1 + 2 = cs at C ⊢
  generalize L + 1 + 1 = cwi at C ⊢
  generalize L + 1 = cr at C ⊢
  refine W.mono (Q := fun f σ' => match f with | .next => False | .brk => False | .cont => False | .ret v => v = .bool true) ?_ (fun f σ' hq => by cases f with
    | ret v => exact ⟨[], .nil, hq⟩
    | next => exact hq.elim
    | brk => exact hq.elim
    | cont => exact hq.elim)
  show LX c (A.deeper env) env 0 _
  unfold LX
  have hC1 := C.store
  have hC2 := C.words
  have hC3 := C.row
  have hC4 := C.widths
  refine x_cons ?_
  wtm_at "Mgo"
  refine c_row G (R'.less (by decide)) hs hl fun ra row hrow => ?_
  wtm_at "Mgo"
  refine c_Design G (R'.less (by decide)) fun da dd sl b1 b2 b3 b4 b5 b6 b7 b8 bp => ?_
  wtm_at "Mgo"
  refine e_comp (cp_turn F0 (by wtm_at "Mkd") hC3) ?_
  wtm_at "Mgo"
  intro rg
  refine co_rng (x0 := 0) (y0 := 4) (P := List Nat) (fun p ρ => (ra, .lst (bl p)) :: ρ) (fun i p ys => RowOk p ∧ ∃ l, ys = bl l ∧ l.length = i ∧ ∀ w ∈ l, 1 ≤ w ∧ w ≤ 6) _ row (vx := fun v => [none, some v, none, none]) F0 (cp_turn F0 (by wtm_at "Mkd") hC3) R'.hd (by decide) (fun p ρ => rfl) (by wtm_at "Msb") ⟨hrow, [], rfl, rfl, fun w hw => by cases hw⟩ (fun v => .there .here) ?_ ?_
  · intro k p ys ρ2 C2 hk hyl hinv hρ2 hC2m Fc
    obtain ⟨hr1, l, rfl, hl1, hl2⟩ := hinv
    have c3' := hρ2 (cr, .cel (some (.ref ra))) (by wtm_at "Mmem")
    wtm_at "Mgo"
    refine e_cell Fc (by wtm_at "Mkd") rfl (by wtm_at "Mmem") ?_
    wtm_at "Mgo"
    refine c_next G (R'.less (by decide)) hr1 fun n row2 hn hr2 => ?_
    wtm_at "Mgo"
    refine o_modL 6 rfl (by decide) ?_
    wtm_at "Mgo"
    rw [show (1 : Int) + ((n % 6 : Nat) : Int) = ((1 + n % 6 : Nat) : Int) by push_cast; rfl]
    refine ⟨row2, ⟨hr2, l ++ [1 + n % 6], bl_app _ _, by simp [hl1], fun w hw => ?_⟩, by wtm_at "Msb"⟩
    rcases List.mem_append.mp hw with hw | hw
    · exact hl2 w hw
    · rw [List.mem_singleton.mp hw]; omega
  · intro row2 ys D C2 hyl hinv
    obtain ⟨hr2, l, rfl, hl1, hl2⟩ := hinv
    have e4 : ((4 : Int) - 0).toNat = 4 := rfl
    rw [e4] at hl1
    refine ⟨_, (_, _), rfl, ?_⟩
    dsimp only
    wtm_at "Mgo"
    refine ⟨by decide, fun b => ?_⟩
    refine o_addl (l := bl l) (l' := [.int 3, .int 4, .int 2]) (by wtm_at "Mmem") (by wtm_at "Mmem") (by rw [bl_len, hl1]; decide) fun wia => ?_
    have ebl : bl l ++ [AV.int 3, AV.int 4, AV.int 2] = bl (l ++ [3, 4, 2]) := by unfold bl; rw [List.map_append]; rfl
    rw [ebl]
    generalize hws : l ++ [3, 4, 2] = ws
    have hwl : ws.length = 7 := by rw [← hws]; simp [hl1]
    have hw4 : ws.getD 4 0 = 3 ∧ ws.getD 5 0 = 4 ∧ ws.getD 6 0 = 2 := by
      rw [← hws]
      refine ⟨?_, ?_, ?_⟩ <;> (rw [List.getD_eq_getElem?_getD, List.getElem?_append_right (by omega), hl1]; rfl)
    have hwlo : ∀ k, k < 7 → 1 ≤ ws.getD k 0 ∧ ws.getD k 0 ≤ 6 := by
      intro k hk
      by_cases q : k < 4
      · rw [← hws, List.getD_eq_getElem?_getD, List.getElem?_append_left (by omega), List.getElem?_eq_getElem (by omega)]
        exact hl2 _ (List.getElem_mem _)
      · have : k = 4 ∨ k = 5 ∨ k = 6 := by omega
        rcases this with rfl | rfl | rfl
        · rw [hw4.1]; decide
        · rw [hw4.2.1]; decide
        · rw [hw4.2.2]; decide
    wtm_at "Mgo"
    intro rg5
    refine fo_rng (x := 0) (y := 5) (P := List AV × Nat × Led × Option AV)
      (fun p ρ => (L, .ns nm_law [some (.ref s), none, some (.ref da), none, none, p.2.2.2, none, none, none, none, none, none, none, none, none, none, none]) :: (sl, .lst p.1) :: (bp, .dcs p.2.1) :: (p.2.2.1 ++ ρ))
      (fun i p => p.1.length = i ∧ p.2.1 = i ∧ ∀ j, j < i → ∃ s, p.1[j]? = some (.ref s) ∧ Sig p.2.2.1 s j (ws.getD j 0) false)
      _ ([], 0, [], none) R'.hd (by decide) (fun p ρ => by simp) (by show Sb (_ :: _ :: _ :: _ :: ([] ++ _)) _; simp only [List.nil_append]; wtm_at "Msb") ⟨rfl, rfl, fun j hj => by omega⟩ ?_ ?_
    · intro i p ρ hi hinv hρ hsb_
      obtain ⟨sigs, n, nw, jk⟩ := p
      obtain ⟨g1, g2, g3⟩ := hinv
      dsimp only at g1 g2 g3 ⊢
      subst g2
      have c4' := hρ (cwi, .cel (some (.ref wia))) (by wtm_at "Mmem")
      have mw' := hρ (wia, .lst (bl ws)) (by wtm_at "Mmem")
      have md1 := hρ (da, .ins 651 dd) (by wtm_at "Mmem")
      have md2 := hρ (dd, .fld (dsF sl b1 b2 b3 b4 b5 b6 b7 b8 bp)) (by wtm_at "Mmem")
      simp only [Int.zero_add]
      wtm_at "Mgo"
      have hsl : (Str.ofString "sabcdm").length = 6 := by decide +kernel
      have hwi : ws[n]? = some (ws.getD n 0) := by rw [List.getD_eq_getElem?_getD, List.getElem?_eq_getElem (by rw [hwl]; omega)]; rfl
      refine u_str (by omega) (by rw [hsl]; omega) (by rw [hsl]; decide) ?_
      wtm_at "Mgo"
      refine u_list (by wtm_at "Mmem") (by omega) (by omega) (by rw [Int.toNat_natCast]; exact bl_get hwi) ?_
      wtm_at "Mgo"
      refine u_list (by wtm_at "Mmem") (by omega) (by omega) (by rw [Int.toNat_natCast]; exact bl_get hwi) ?_
      wtm_at "Mgo"
      refine Call.sb (σ' := (sl, .lst sigs) :: (bp, .dcs n) :: _) (by wtm_at "Msb") ?_
      refine c_add_signal G (R'.less (by decide)) (by wtm_at "Mmem") (by wtm_at "Mmem") (by omega) (by omega) fun x d => ?_
      wtm_at "Mgo"
      refine' ⟨(sigs ++ [.ref x], n + 1, (x, .ins 588 d) :: (d, .fld (sigF sigs.length (ws.getD n 0) _ false)) :: nw, _), ⟨by simp [g1], rfl, ?i1⟩, ?sb⟩
      case sb =>
        show Sb ((L, .ns _ _) :: (sl, _) :: (bp, _) :: (x, _) :: (d, _) :: (nw ++ ρ)) _
        wtm_at "Msb"
      case i1 =>
        intro j hj
        by_cases q : j < n
        · obtain ⟨s', h1, h2⟩ := g3 j q
          exact ⟨s', by show (sigs ++ [AV.ref x])[j]? = _; rw [List.getElem?_append_left (by omega)]; exact h1, (h2.mono (in_cons _)).mono (in_cons _)⟩
        · have : j = n := by omega
          subst this
          refine ⟨x, by show (sigs ++ [AV.ref x])[j]? = _; rw [List.getElem?_append_right (by omega), g1, Nat.sub_self]; rfl, d, Txt.item (Str.ofString "sabcdm") ((j : Int) + 1), .head _, ?_⟩
          refine List.mem_cons_of_mem _ ?_
          rw [← g1]
          exact .head _
    · rintro ⟨sigs, n, nw, jk⟩ ⟨g1, g2, g3⟩
      have e5 : ((5 : Int) - 0).toNat = 5 := rfl
      rw [e5] at g1 g2 g3
      dsimp only at g1 g2 g3 ⊢
      obtain ⟨s4, hs4, d4, pth, m1, m2⟩ := g3 4 (by omega)
      obtain ⟨nw1, U1⟩ := up_of_mem (.fld (fput (sigF 4 (ws.getD 4 0) pth false) (Str.ofString "first") (.int 1))) m2
      have m1' : (s4, MO.ins 588 d4) ∈ nw1 := U1.tup m1 (by intro e; cases e)
      obtain ⟨nw2, U2⟩ := up_of_mem (.fld (fput (fput (sigF 4 (ws.getD 4 0) pth false) (Str.ofString "first") (.int 1)) (Str.ofString "last") (.int 4))) U1.new
      have m1'' : (s4, MO.ins 588 d4) ∈ nw2 := U2.tup m1' (by intro e; cases e)
      have m2'' := U2.new
      rw [sig_both] at m2''
      wtm_at "Mgo"
      refine u_list (by wtm_at "Mmem") (by decide) (by decide) hs4 ?_
      refine sa_sig_first G (by wtm_at "Mmem") (.there (.there (.there (.left U1)))) (Nat.le_of_ble_eq_true (by kernel_rfl)) ?_
      wtm_at "Mgo"
      refine u_list (by wtm_at "Mmem") (by decide) (by decide) hs4 ?_
      refine sa_sig_last G (by wtm_at "Mmem") (.there (.there (.there (.left U2)))) (Nat.le_of_ble_eq_true (by kernel_rfl)) ?_
      wtm_at "Mgo"
      refine c_Store G (R'.less (by decide)) fun x st va ma => ?_
      with_reducible wtm_at "Mstep"
      have hsg : ∀ k, k < 5 → ∃ s, sigs[k]? = some (.ref s) ∧ Sig nw2 s k (ws.getD k 0) (k == 4) := by
        intro k hk
        by_cases q : k = 4
        · subst q
          exact ⟨s4, hs4, d4, pth, m1'', m2''⟩
        · obtain ⟨s', h1, d', pth', h2, h3⟩ := g3 k hk
          have e : (k == 4) = false := by simpa using q
          rw [e]
          refine ⟨s', h1, d', pth', ?_, ?_⟩
          · exact U2.tup (U1.tup h2 (by intro e; cases e)) (by intro e; cases e)
          · refine U2.tup (U1.tup h3 ?_) ?_
            · intro e
              simp only [Prod.mk.injEq, MO.fld.injEq] at e
              exact head_ne (sig_head k _ _ _) (sig_head 4 _ _ _) q e.2
            · intro e
              simp only [Prod.mk.injEq, MO.fld.injEq] at e
              exact head_ne (sig_head k _ _ _) (sig_head1 4 _ _ _ _) q e.2
      refine X.sb (σ' := (L, .ns nm_law [some (.ref s), none, some (.ref da), none, none, jk, none, none, none, none, none, none, none, none, none, none, none]) :: (cwo, .cel none) :: (ra, .lst (bl row2)) :: (va, .dct []) :: (ma, .dct []) :: (x, .ins 693 st) :: (st, .fld (stF sl va ma)) :: (sl, .lst sigs) :: (nw2 ++ [(cs, .cel (some (.ref x))), (cr, .cel (some (.ref ra))), (cwi, .cel (some (.ref wia))), (wia, .lst (bl ws))])) (by wtm_at "Msb") ?_
      exact law_mid G (R'.less (by decide)) F0 C (ws := ws) ⟨⟨st, .head _, .tail _ (.head _)⟩, ⟨sigs, .tail _ (.tail _ (.head _)), g1, fun k hk => by
        obtain ⟨s', h1, h2⟩ := hsg k hk
        exact ⟨s', h1, h2.mono fun z hz => by wtm_at "Mmem"⟩⟩, hwl, hwlo⟩ (by wtm_at "Mmem") (by wtm_at "Mmem") (by wtm_at "Mmem") (by wtm_at "Mmem") hw4.1 hw4.2 hr2
end
section
set_option maxRecDepth 100000
set_option maxHeartbeats 0
section
noncomputable def mgE (P : Params) : Array DictEntry := match (o3v13 P).data with | .dict es _ => es | _ => #[]
noncomputable def mbE (P : Params) : Array DictEntry := match (boot_o_0 P).data with | .dict es _ => es | _ => #[]
noncomputable def mcE (P : Params) : Array DictEntry := match (o2v1 P).data with | .dict es _ => es | _ => #[]
noncomputable def epOf (o : Obj) : Nat := match o.data with | .dict _ n => n | _ => 0
noncomputable def keyStr (e : DictEntry) : Bool := match e.key with | .str .. => true | _ => false
theorem strKeys_of {es : Array DictEntry} (h : es.toList.all keyStr = true) : StrKeys es := by
  intro e he
  have := List.all_eq_true.mp h e (by simpa using he)
  unfold keyStr at this
  split at this
  · rename_i n t q; exact ⟨n, t, q⟩
  · cases this
theorem sk_mg (P : Params) : StrKeys (mgE P) := strKeys_of (by kernel_rfl)
theorem sk_mb (P : Params) : StrKeys (mbE P) := strKeys_of (by kernel_rfl)
theorem sk_mc (P : Params) : StrKeys (mcE P) := strKeys_of (by kernel_rfl)
variable {c : Cx} {P : Params}
theorem at_k (X : (K0 P).In c.B) (a : Addr) {o : Obj} (e : (K0 P).lookup a = some o) : c.B.get? a = some o := X a o e
theorem ns_k (X : (K0 P).In c.B) (a : Addr) {o : Obj} {es : Array DictEntry} {ep : Nat} (e : (K0 P).lookup a = some o) (hd : o.data = .dict es ep) (hk : StrKeys es) : c.B.Ns a (nsFind es) := ⟨_, es, ep, at_k X a e, hd, hk, fun _ => rfl⟩
theorem ns_mg (X : (K0 P).In c.B) : c.B.Ns mainGlobals (nsFind (mgE P)) := ns_k X 3 (o := o3v13 P) (ep := 97) (by kernel_rfl) (by kernel_rfl) (sk_mg P)
theorem ns_mb (X : (K0 P).In c.B) : c.B.Ns builtinsNs (nsFind (mbE P)) := ns_k X 0 (o := boot_o_0 P) (ep := epOf (boot_o_0 P)) (by kernel_rfl) (by kernel_rfl) (sk_mb P)
theorem ns_mc (X : (K0 P).In c.B) : c.B.Ns cStatics (nsFind (mcE P)) := ns_k X cStatics (o := o2v1 P) (ep := epOf (o2v1 P)) (by kernel_rfl) (by kernel_rfl) (sk_mc P)
theorem gl_m (X : (K0 P).In c.B) {x : Str} {v : Value} (h : nsFind (mgE P) x = some v) : Gl c x v := .inl ⟨_, ns_mg X, h⟩
theorem gl_b (X : (K0 P).In c.B) {x : Str} {v : Value} (h0 : nsFind (mgE P) x = none) (h : nsFind (mbE P) x = some v) : Gl c x v := .inr ⟨_, _, ns_mg X, h0, ns_mb X, h⟩
theorem cr_k (X : (K0 P).In c.B) {a : Addr} {q : Str} {t : Tok} {oc od vs sl} (e : (K0 P).lookup a = some ⟨oc, od, .fields vs, sl⟩) (h : vs[1]? = some (.str q t)) : c.B.CodeRec (.ref a) q := ⟨a, _, vs, t, rfl, at_k X a e, rfl, h⟩
theorem fn_k (X : (K0 P).In c.B) (f a : Addr) {name qual : Str} {doc pm ct oc oc' : Value} {an : Option Addr} {od od' : Option Addr} {osl sl : Array (Option Value)} {s : Stmt} {vs : Array Value} {t : Tok} (e : (K0 P).lookup f = some ⟨oc, od, .func (fnOf name qual (fdParams s) (fdBody s) (fdScope s) .none .none doc pm an (.ref a) ct), osl⟩) (e2 : (K0 P).lookup a = some ⟨oc', od', .fields vs, sl⟩) (h : vs[1]? = some (.str qual t)) : FnAt c f s := ⟨_, _, _, _, _, _, _, _, _, _, at_k X f e, cr_k X e2 h⟩
theorem j_f_mask (X : (K0 P).In c.B) : FG c (Str.ofString "mask") 61 (st 5) := ⟨gl_m X (by kernel_rfl), fn_k X 61 60 rfl rfl rfl⟩
theorem j_f_all_x (X : (K0 P).In c.B) : FG c (Str.ofString "all_x") 83 (st 8) := ⟨gl_m X (by kernel_rfl), fn_k X 83 82 rfl rfl rfl⟩
theorem j_f_to_int (X : (K0 P).In c.B) : FG c (Str.ofString "to_int") 111 (st 12) := ⟨gl_m X (by kernel_rfl), fn_k X 111 110 rfl rfl rfl⟩
theorem j_f_slice_vec (X : (K0 P).In c.B) : FG c (Str.ofString "slice_vec") 125 (st 14) := ⟨gl_m X (by kernel_rfl), fn_k X 125 124 rfl rfl rfl⟩
theorem j_f_put_slice (X : (K0 P).In c.B) : FG c (Str.ofString "put_slice") 132 (st 15) := ⟨gl_m X (by kernel_rfl), fn_k X 132 131 rfl rfl rfl⟩
theorem j_f_whole_of (X : (K0 P).In c.B) : FG c (Str.ofString "whole_of") 461 (st 65) := ⟨gl_m X (by kernel_rfl), fn_k X 461 460 rfl rfl rfl⟩
theorem j_f_evaluate (X : (K0 P).In c.B) : FG c (Str.ofString "evaluate") 501 (st 71) := ⟨gl_m X (by kernel_rfl), fn_k X 501 500 rfl rfl rfl⟩
theorem j_f_locate (X : (K0 P).In c.B) : FG c (Str.ofString "locate") 508 (st 72) := ⟨gl_m X (by kernel_rfl), fn_k X 508 507 rfl rfl rfl⟩
theorem j_f_holder_width (X : (K0 P).In c.B) : FG c (Str.ofString "holder_width") 515 (st 73) := ⟨gl_m X (by kernel_rfl), fn_k X 515 514 rfl rfl rfl⟩
theorem j_f_resolve_target (X : (K0 P).In c.B) : FG c (Str.ofString "resolve_target") 522 (st 74) := ⟨gl_m X (by kernel_rfl), fn_k X 522 521 rfl rfl rfl⟩
theorem j_f_store_rows (X : (K0 P).In c.B) : FG c (Str.ofString "store_rows") 529 (st 75) := ⟨gl_m X (by kernel_rfl), fn_k X 529 528 rfl rfl rfl⟩
theorem j_f_net_kinds (X : (K0 P).In c.B) : FG c (Str.ofString "net_kinds") 536 (st 77) := ⟨gl_m X (by kernel_rfl), fn_k X 536 535 rfl rfl rfl⟩
theorem j_f__law_row (X : (K0 P).In c.B) : FG c (Str.ofString "_law_row") 747 (st 84) := ⟨gl_m X (by kernel_rfl), fn_k X 747 746 rfl rfl rfl⟩
theorem j_f__law_next (X : (K0 P).In c.B) : FG c (Str.ofString "_law_next") 754 (st 85) := ⟨gl_m X (by kernel_rfl), fn_k X 754 753 rfl rfl rfl⟩
theorem j_f__law_bits (X : (K0 P).In c.B) : FG c (Str.ofString "_law_bits") 761 (st 86) := ⟨gl_m X (by kernel_rfl), fn_k X 761 760 rfl rfl rfl⟩
theorem j_f__law_made (X : (K0 P).In c.B) : FG c (Str.ofString "_law_made") 768 (st 87) := ⟨gl_m X (by kernel_rfl), fn_k X 768 767 rfl rfl rfl⟩
theorem j_f__law_const (X : (K0 P).In c.B) : FG c (Str.ofString "_law_const") 775 (st 88) := ⟨gl_m X (by kernel_rfl), fn_k X 775 774 rfl rfl rfl⟩
theorem j_f__law_whole (X : (K0 P).In c.B) : FG c (Str.ofString "_law_whole") 782 (st 89) := ⟨gl_m X (by kernel_rfl), fn_k X 782 781 rfl rfl rfl⟩
theorem j_f__law_amount (X : (K0 P).In c.B) : FG c (Str.ofString "_law_amount") 787 (st 90) := ⟨gl_m X (by kernel_rfl), fn_k X 787 786 rfl rfl rfl⟩
theorem j_f__law_part (X : (K0 P).In c.B) : FG c (Str.ofString "_law_part") 794 (st 91) := ⟨gl_m X (by kernel_rfl), fn_k X 794 793 rfl rfl rfl⟩
theorem j_f__law_source (X : (K0 P).In c.B) : FG c (Str.ofString "_law_source") 801 (st 92) := ⟨gl_m X (by kernel_rfl), fn_k X 801 800 rfl rfl rfl⟩
theorem j_f__law_low (X : (K0 P).In c.B) : FG c (Str.ofString "_law_low") 808 (st 93) := ⟨gl_m X (by kernel_rfl), fn_k X 808 807 rfl rfl rfl⟩
theorem j_f__law_write (X : (K0 P).In c.B) : FG c (Str.ofString "_law_write") 815 (st 94) := ⟨gl_m X (by kernel_rfl), fn_k X 815 814 rfl rfl rfl⟩
theorem j_m_Signal_init (X : (K0 P).In c.B) : FnAt c 550 (ms 78 0) := fn_k X 550 549 rfl rfl rfl
theorem j_m_Signal_is_net (X : (K0 P).In c.B) : FnAt c 557 (ms 78 1) := fn_k X 557 556 rfl rfl rfl
theorem j_m_Signal_words (X : (K0 P).In c.B) : FnAt c 571 (ms 78 3) := fn_k X 571 570 rfl rfl rfl
theorem j_m_Signal_place (X : (K0 P).In c.B) : FnAt c 585 (ms 78 5) := fn_k X 585 584 rfl rfl rfl
theorem j_m_Design_init (X : (K0 P).In c.B) : FnAt c 606 (ms 79 0) := fn_k X 606 605 rfl rfl rfl
theorem j_m_Design_add_signal (X : (K0 P).In c.B) : FnAt c 613 (ms 79 1) := fn_k X 613 612 rfl rfl rfl
theorem j_m_Store_init (X : (K0 P).In c.B) : FnAt c 669 (ms 81 0) := fn_k X 669 668 rfl rfl rfl
theorem j_m_Store_get (X : (K0 P).In c.B) : FnAt c 676 (ms 81 1) := fn_k X 676 675 rfl rfl rfl
theorem j_m_Store_word (X : (K0 P).In c.B) : FnAt c 683 (ms 81 2) := fn_k X 683 682 rfl rfl rfl
theorem j_m_Store_set_bits (X : (K0 P).In c.B) : FnAt c 690 (ms 81 3) := fn_k X 690 689 rfl rfl rfl
theorem j_m_Context_init (X : (K0 P).In c.B) : FnAtD c 712 (ms 82 0) 705 := ⟨_, _, _, _, _, _, _, _, _, _, at_k X 712 rfl, cr_k X (a := 711) rfl rfl⟩
theorem j_d_Context (X : (K0 P).In c.B) : ∃ t, c.B.get? 705 = some { cls := .type "tuple", data := .seq #[.int 0 t] 0 } := ⟨_, at_k X 705 rfl⟩
theorem j_c_Signal (X : (K0 P).In c.B) : Cs c (K0 P) (Str.ofString "Signal") 588 := ⟨gl_m X (by kernel_rfl), ⟨by kernel_rfl, by kernel_rfl, by kernel_rfl, by kernel_rfl, by kernel_rfl⟩, by kernel_rfl, by kernel_rfl⟩
theorem j_t_Signal___init__ : Mt (K0 P) 588 (Str.ofString "__init__") 550 := ⟨by kernel_rfl, by kernel_rfl⟩
theorem j_t_Signal_is_net : Mt (K0 P) 588 (Str.ofString "is_net") 557 := ⟨by kernel_rfl, by kernel_rfl⟩
theorem j_t_Signal_words : Mt (K0 P) 588 (Str.ofString "words") 571 := ⟨by kernel_rfl, by kernel_rfl⟩
theorem j_t_Signal_place : Mt (K0 P) 588 (Str.ofString "place") 585 := ⟨by kernel_rfl, by kernel_rfl⟩
theorem j_a_Signal_key : At (K0 P) 588 (Str.ofString "key") := by show _ = _; kernel_rfl
theorem j_a_Signal_path : At (K0 P) 588 (Str.ofString "path") := by show _ = _; kernel_rfl
theorem j_a_Signal_kind : At (K0 P) 588 (Str.ofString "kind") := by show _ = _; kernel_rfl
theorem j_a_Signal_width : At (K0 P) 588 (Str.ofString "width") := by show _ = _; kernel_rfl
theorem j_a_Signal_signed : At (K0 P) 588 (Str.ofString "signed") := by show _ = _; kernel_rfl
theorem j_a_Signal_msb : At (K0 P) 588 (Str.ofString "msb") := by show _ = _; kernel_rfl
theorem j_a_Signal_lsb : At (K0 P) 588 (Str.ofString "lsb") := by show _ = _; kernel_rfl
theorem j_a_Signal_first : At (K0 P) 588 (Str.ofString "first") := by show _ = _; kernel_rfl
theorem j_a_Signal_last : At (K0 P) 588 (Str.ofString "last") := by show _ = _; kernel_rfl
theorem j_a_Signal_init : At (K0 P) 588 (Str.ofString "init") := by show _ = _; kernel_rfl
theorem j_a_Signal_at : At (K0 P) 588 (Str.ofString "at") := by show _ = _; kernel_rfl
theorem j_a_Signal_scalar : At (K0 P) 588 (Str.ofString "scalar") := by show _ = _; kernel_rfl
theorem j_s_Signal_key : takerIn (K0 P) 588 (Str.ofString "key") = some none := by kernel_rfl
theorem j_s_Signal_path : takerIn (K0 P) 588 (Str.ofString "path") = some none := by kernel_rfl
theorem j_s_Signal_kind : takerIn (K0 P) 588 (Str.ofString "kind") = some none := by kernel_rfl
theorem j_s_Signal_width : takerIn (K0 P) 588 (Str.ofString "width") = some none := by kernel_rfl
theorem j_s_Signal_signed : takerIn (K0 P) 588 (Str.ofString "signed") = some none := by kernel_rfl
theorem j_s_Signal_msb : takerIn (K0 P) 588 (Str.ofString "msb") = some none := by kernel_rfl
theorem j_s_Signal_lsb : takerIn (K0 P) 588 (Str.ofString "lsb") = some none := by kernel_rfl
theorem j_s_Signal_first : takerIn (K0 P) 588 (Str.ofString "first") = some none := by kernel_rfl
theorem j_s_Signal_last : takerIn (K0 P) 588 (Str.ofString "last") = some none := by kernel_rfl
theorem j_s_Signal_init : takerIn (K0 P) 588 (Str.ofString "init") = some none := by kernel_rfl
theorem j_s_Signal_at : takerIn (K0 P) 588 (Str.ofString "at") = some none := by kernel_rfl
theorem j_s_Signal_scalar : takerIn (K0 P) 588 (Str.ofString "scalar") = some none := by kernel_rfl
theorem j_c_Design (X : (K0 P).In c.B) : Cs c (K0 P) (Str.ofString "Design") 651 := ⟨gl_m X (by kernel_rfl), ⟨by kernel_rfl, by kernel_rfl, by kernel_rfl, by kernel_rfl, by kernel_rfl⟩, by kernel_rfl, by kernel_rfl⟩
theorem j_t_Design___init__ : Mt (K0 P) 651 (Str.ofString "__init__") 606 := ⟨by kernel_rfl, by kernel_rfl⟩
theorem j_t_Design_add_signal : Mt (K0 P) 651 (Str.ofString "add_signal") 613 := ⟨by kernel_rfl, by kernel_rfl⟩
theorem j_a_Design_signals : At (K0 P) 651 (Str.ofString "signals") := by show _ = _; kernel_rfl
theorem j_a_Design_assigns : At (K0 P) 651 (Str.ofString "assigns") := by show _ = _; kernel_rfl
theorem j_a_Design_gates : At (K0 P) 651 (Str.ofString "gates") := by show _ = _; kernel_rfl
theorem j_a_Design_udps : At (K0 P) 651 (Str.ofString "udps") := by show _ = _; kernel_rfl
theorem j_a_Design_processes : At (K0 P) 651 (Str.ofString "processes") := by show _ = _; kernel_rfl
theorem j_a_Design_routines : At (K0 P) 651 (Str.ofString "routines") := by show _ = _; kernel_rfl
theorem j_a_Design_scopes : At (K0 P) 651 (Str.ofString "scopes") := by show _ = _; kernel_rfl
theorem j_a_Design_tops : At (K0 P) 651 (Str.ofString "tops") := by show _ = _; kernel_rfl
theorem j_a_Design_ports : At (K0 P) 651 (Str.ofString "ports") := by show _ = _; kernel_rfl
theorem j_a_Design_maker : At (K0 P) 651 (Str.ofString "maker") := by show _ = _; kernel_rfl
theorem j_a_Design_by_path : At (K0 P) 651 (Str.ofString "by_path") := by show _ = _; kernel_rfl
theorem j_s_Design_signals : takerIn (K0 P) 651 (Str.ofString "signals") = some none := by kernel_rfl
theorem j_s_Design_assigns : takerIn (K0 P) 651 (Str.ofString "assigns") = some none := by kernel_rfl
theorem j_s_Design_gates : takerIn (K0 P) 651 (Str.ofString "gates") = some none := by kernel_rfl
theorem j_s_Design_udps : takerIn (K0 P) 651 (Str.ofString "udps") = some none := by kernel_rfl
theorem j_s_Design_processes : takerIn (K0 P) 651 (Str.ofString "processes") = some none := by kernel_rfl
theorem j_s_Design_routines : takerIn (K0 P) 651 (Str.ofString "routines") = some none := by kernel_rfl
theorem j_s_Design_scopes : takerIn (K0 P) 651 (Str.ofString "scopes") = some none := by kernel_rfl
theorem j_s_Design_tops : takerIn (K0 P) 651 (Str.ofString "tops") = some none := by kernel_rfl
theorem j_s_Design_ports : takerIn (K0 P) 651 (Str.ofString "ports") = some none := by kernel_rfl
theorem j_s_Design_maker : takerIn (K0 P) 651 (Str.ofString "maker") = some none := by kernel_rfl
theorem j_s_Design_by_path : takerIn (K0 P) 651 (Str.ofString "by_path") = some none := by kernel_rfl
theorem j_c_Store (X : (K0 P).In c.B) : Cs c (K0 P) (Str.ofString "Store") 693 := ⟨gl_m X (by kernel_rfl), ⟨by kernel_rfl, by kernel_rfl, by kernel_rfl, by kernel_rfl, by kernel_rfl⟩, by kernel_rfl, by kernel_rfl⟩
theorem j_t_Store___init__ : Mt (K0 P) 693 (Str.ofString "__init__") 669 := ⟨by kernel_rfl, by kernel_rfl⟩
theorem j_t_Store_get : Mt (K0 P) 693 (Str.ofString "get") 676 := ⟨by kernel_rfl, by kernel_rfl⟩
theorem j_t_Store_word : Mt (K0 P) 693 (Str.ofString "word") 683 := ⟨by kernel_rfl, by kernel_rfl⟩
theorem j_t_Store_set_bits : Mt (K0 P) 693 (Str.ofString "set_bits") 690 := ⟨by kernel_rfl, by kernel_rfl⟩
theorem j_a_Store_signals : At (K0 P) 693 (Str.ofString "signals") := by show _ = _; kernel_rfl
theorem j_a_Store_values : At (K0 P) 693 (Str.ofString "values") := by show _ = _; kernel_rfl
theorem j_a_Store_memories : At (K0 P) 693 (Str.ofString "memories") := by show _ = _; kernel_rfl
theorem j_a_Store_random_seed : At (K0 P) 693 (Str.ofString "random_seed") := by show _ = _; kernel_rfl
theorem j_s_Store_signals : takerIn (K0 P) 693 (Str.ofString "signals") = some none := by kernel_rfl
theorem j_s_Store_values : takerIn (K0 P) 693 (Str.ofString "values") = some none := by kernel_rfl
theorem j_s_Store_memories : takerIn (K0 P) 693 (Str.ofString "memories") = some none := by kernel_rfl
theorem j_s_Store_random_seed : takerIn (K0 P) 693 (Str.ofString "random_seed") = some none := by kernel_rfl
theorem j_c_Context (X : (K0 P).In c.B) : Cs c (K0 P) (Str.ofString "Context") 736 := ⟨gl_m X (by kernel_rfl), ⟨by kernel_rfl, by kernel_rfl, by kernel_rfl, by kernel_rfl, by kernel_rfl⟩, by kernel_rfl, by kernel_rfl⟩
theorem j_t_Context___init__ : Mt (K0 P) 736 (Str.ofString "__init__") 712 := ⟨by kernel_rfl, by kernel_rfl⟩
theorem j_a_Context_store : At (K0 P) 736 (Str.ofString "store") := by show _ = _; kernel_rfl
theorem j_a_Context_frame : At (K0 P) 736 (Str.ofString "frame") := by show _ = _; kernel_rfl
theorem j_a_Context_now : At (K0 P) 736 (Str.ofString "now") := by show _ = _; kernel_rfl
theorem j_s_Context_store : takerIn (K0 P) 736 (Str.ofString "store") = some none := by kernel_rfl
theorem j_s_Context_frame : takerIn (K0 P) 736 (Str.ofString "frame") = some none := by kernel_rfl
theorem j_s_Context_now : takerIn (K0 P) 736 (Str.ofString "now") = some none := by kernel_rfl
theorem j_b_max (X : (K0 P).In c.B) : Gl c (Str.ofString "max") (.builtin "max") := gl_b X (by kernel_rfl) (by kernel_rfl)
theorem j_b_min (X : (K0 P).In c.B) : Gl c (Str.ofString "min") (.builtin "min") := gl_b X (by kernel_rfl) (by kernel_rfl)
theorem j_b_abs (X : (K0 P).In c.B) : Gl c (Str.ofString "abs") (.builtin "abs") := gl_b X (by kernel_rfl) (by kernel_rfl)
theorem j_b_len (X : (K0 P).In c.B) : Gl c (Str.ofString "len") (.builtin "len") := gl_b X (by kernel_rfl) (by kernel_rfl)
theorem j_b_range (X : (K0 P).In c.B) : Gl c (Str.ofString "range") (.type "range") := gl_b X (by kernel_rfl) (by kernel_rfl)
theorem j_b_sorted (X : (K0 P).In c.B) : Gl c (Str.ofString "sorted") (.builtin "sorted") := gl_b X (by kernel_rfl) (by kernel_rfl)
theorem j_b_tuple (X : (K0 P).In c.B) : Gl c (Str.ofString "tuple") (.type "tuple") := gl_b X (by kernel_rfl) (by kernel_rfl)
theorem j_b_list (X : (K0 P).In c.B) : Gl c (Str.ofString "list") (.type "list") := gl_b X (by kernel_rfl) (by kernel_rfl)
theorem j_b_sum (X : (K0 P).In c.B) : Gl c (Str.ofString "sum") (.builtin "sum") := gl_b X (by kernel_rfl) (by kernel_rfl)
theorem ps_all (X : (K0 P).In c.B) : Ps c (K0 P) where
  low := by rw [at_k X sysModules rfl]; rfl
  nolimit := ⟨_, ns_mc X, by kernel_rfl⟩
  X := X
  f_mask := j_f_mask X
  f_all_x := j_f_all_x X
  f_to_int := j_f_to_int X
  f_slice_vec := j_f_slice_vec X
  f_put_slice := j_f_put_slice X
  f_whole_of := j_f_whole_of X
  f_evaluate := j_f_evaluate X
  f_locate := j_f_locate X
  f_holder_width := j_f_holder_width X
  f_resolve_target := j_f_resolve_target X
  f_store_rows := j_f_store_rows X
  f_net_kinds := j_f_net_kinds X
  f__law_row := j_f__law_row X
  f__law_next := j_f__law_next X
  f__law_bits := j_f__law_bits X
  f__law_made := j_f__law_made X
  f__law_const := j_f__law_const X
  f__law_whole := j_f__law_whole X
  f__law_amount := j_f__law_amount X
  f__law_part := j_f__law_part X
  f__law_source := j_f__law_source X
  f__law_low := j_f__law_low X
  f__law_write := j_f__law_write X
  m_Signal_init := j_m_Signal_init X
  m_Signal_is_net := j_m_Signal_is_net X
  m_Signal_words := j_m_Signal_words X
  m_Signal_place := j_m_Signal_place X
  m_Design_init := j_m_Design_init X
  m_Design_add_signal := j_m_Design_add_signal X
  m_Store_init := j_m_Store_init X
  m_Store_get := j_m_Store_get X
  m_Store_word := j_m_Store_word X
  m_Store_set_bits := j_m_Store_set_bits X
  m_Context_init := j_m_Context_init X
  d_Context := j_d_Context X
  c_Signal := j_c_Signal X
  t_Signal___init__ := j_t_Signal___init__
  t_Signal_is_net := j_t_Signal_is_net
  t_Signal_words := j_t_Signal_words
  t_Signal_place := j_t_Signal_place
  a_Signal_key := j_a_Signal_key
  a_Signal_path := j_a_Signal_path
  a_Signal_kind := j_a_Signal_kind
  a_Signal_width := j_a_Signal_width
  a_Signal_signed := j_a_Signal_signed
  a_Signal_msb := j_a_Signal_msb
  a_Signal_lsb := j_a_Signal_lsb
  a_Signal_first := j_a_Signal_first
  a_Signal_last := j_a_Signal_last
  a_Signal_init := j_a_Signal_init
  a_Signal_at := j_a_Signal_at
  a_Signal_scalar := j_a_Signal_scalar
  s_Signal_key := j_s_Signal_key
  s_Signal_path := j_s_Signal_path
  s_Signal_kind := j_s_Signal_kind
  s_Signal_width := j_s_Signal_width
  s_Signal_signed := j_s_Signal_signed
  s_Signal_msb := j_s_Signal_msb
  s_Signal_lsb := j_s_Signal_lsb
  s_Signal_first := j_s_Signal_first
  s_Signal_last := j_s_Signal_last
  s_Signal_init := j_s_Signal_init
  s_Signal_at := j_s_Signal_at
  s_Signal_scalar := j_s_Signal_scalar
  c_Design := j_c_Design X
  t_Design___init__ := j_t_Design___init__
  t_Design_add_signal := j_t_Design_add_signal
  a_Design_signals := j_a_Design_signals
  a_Design_assigns := j_a_Design_assigns
  a_Design_gates := j_a_Design_gates
  a_Design_udps := j_a_Design_udps
  a_Design_processes := j_a_Design_processes
  a_Design_routines := j_a_Design_routines
  a_Design_scopes := j_a_Design_scopes
  a_Design_tops := j_a_Design_tops
  a_Design_ports := j_a_Design_ports
  a_Design_maker := j_a_Design_maker
  a_Design_by_path := j_a_Design_by_path
  s_Design_signals := j_s_Design_signals
  s_Design_assigns := j_s_Design_assigns
  s_Design_gates := j_s_Design_gates
  s_Design_udps := j_s_Design_udps
  s_Design_processes := j_s_Design_processes
  s_Design_routines := j_s_Design_routines
  s_Design_scopes := j_s_Design_scopes
  s_Design_tops := j_s_Design_tops
  s_Design_ports := j_s_Design_ports
  s_Design_maker := j_s_Design_maker
  s_Design_by_path := j_s_Design_by_path
  c_Store := j_c_Store X
  t_Store___init__ := j_t_Store___init__
  t_Store_get := j_t_Store_get
  t_Store_word := j_t_Store_word
  t_Store_set_bits := j_t_Store_set_bits
  a_Store_signals := j_a_Store_signals
  a_Store_values := j_a_Store_values
  a_Store_memories := j_a_Store_memories
  a_Store_random_seed := j_a_Store_random_seed
  s_Store_signals := j_s_Store_signals
  s_Store_values := j_s_Store_values
  s_Store_memories := j_s_Store_memories
  s_Store_random_seed := j_s_Store_random_seed
  c_Context := j_c_Context X
  t_Context___init__ := j_t_Context___init__
  a_Context_store := j_a_Context_store
  a_Context_frame := j_a_Context_frame
  a_Context_now := j_a_Context_now
  s_Context_store := j_s_Context_store
  s_Context_frame := j_s_Context_frame
  s_Context_now := j_s_Context_now
  b_max := j_b_max X
  b_min := j_b_min X
  b_abs := j_b_abs X
  b_len := j_b_len X
  b_range := j_b_range X
  b_sorted := j_b_sorted X
  b_tuple := j_b_tuple X
  b_list := j_b_list X
  b_sum := j_b_sum X
end
end
section
set_option maxRecDepth 100000
set_option maxHeartbeats 0
section
theorem r_args : RW.row.toRowW.args = [.list .int] := by rfl
theorem post0 : RW.row.toRowW.post = .eq .res (.lit (.bool true)) := by rfl
theorem ret0 : RW.row.toRowW.returns = .bool := by rfl
theorem r_post (args : List WData) : RW.row.toRowW.claim.post args (.bool true) args = true := by
  show (WShape.has RW.row.toRowW.records (.bool true) RW.row.toRowW.returns && RW.row.toRowW.post.holds RW.row.toRowW.records { args := args, res := some (.bool true), after := args }) = true
  rw [post0, ret0]
  have e : same (.bool true) (.bool true) = true := by simp [same]
  simp [WShape.has, WShape.arms, WTm.holds, WTm.value, e]
theorem r_raises (args : List WData) (cls : ExcName) : RW.row.toRowW.claim.raises args cls = false := by
  rfl
theorem ints_of {R : WRecords} {cl : Str → Option Addr} {h : Heap} {xs : List WData} : ∀ {vs : List Value} {as : List Addr}, ReadsAllW R cl h vs xs as → WShape.hasItems R xs .int = true → ∃ ns : List Int, vs.map er = il ns ∧ ns.length = xs.length := by
  induction xs with
  | nil =>
    intro vs as r _
    cases r
    exact ⟨[], rfl, rfl⟩
  | cons x xs ih =>
    intro vs as r k
    cases r with
    | cons r1 r2 =>
    simp only [WShape.hasItems, Bool.and_eq_true] at k
    obtain ⟨i, rfl⟩ := hasW_int k.1
    obtain ⟨ns, e1, e2⟩ := ih r2 k.2
    cases r1
    exact ⟨i :: ns, by simp [il, er, e1], by simp [e2]⟩
theorem pre_len {R : WRecords} {xs : List WData} (k : RW.row.toRowW.pre.holds R { args := [.list xs] } = true) : xs.length ≤ 63 := by
  have e : RW.row.toRowW.pre = ((WTm.lit (WData.int (Int.ofNat 63))).lt (WTm.arg 0).len).not.and (WTm.lit (WData.bool true)) := by rfl
  rw [e] at k
  simp [WTm.holds, WTm.value, less?, Num.less?] at k
  by_cases h : 63 < xs.length
  · have h' : (63 : Int) < xs.length := by omega
    simp [h'] at k
  · omega
theorem rm0 : Rm callerA 11 := ⟨rfl, by decide, by decide⟩
theorem walk0 (d : DefRec) (kwd : List (Str × Expr)) (hdef : defOf qv RW.row.name = some (d, kwd)) : WalkO qv loose0 (fun _ _ => True) (InK K0) RW.row.toRowW d kwd fun f vs => PySem.call f vs := by
  intro w s₀ s₁ mg mb G Y a o pm cd doc dV kV ha hd hcd hdf hmg hgens args vals as hpre hlay hreads hwell hsys
  have X : (K0 w.params).In s₁.heap := Y
  let c : Cx := ⟨PW, w, s₁.heap, s₁.os⟩
  have Xc : (K0 w.params).In c.B := X
  have hn : d.name = Str.ofString "law" := defOf_name hdef
  have ea : a = 820 := by
    obtain ⟨o1, es1, ep1, h1, h2, h3, h4⟩ := G.T.g
    obtain ⟨o2, es2, ep2, k1, k2, k3, k4⟩ := ns_mg Xc
    have e : o1 = o2 := Option.some.inj (h1.symm.trans k1)
    subst e
    have e2 : es1 = es2 := by have := h2.symm.trans k2; injection this
    subst e2
    have m := (h4 d.name).trans hmg
    rw [hn, k4 (Str.ofString "law"), show nsFind (mgE w.params) (Str.ofString "law") = some (.ref 820) by kernel_rfl] at m
    injection m with m; injection m with m; exact m.symm
  subst ea
  have hp := pre_splitW hpre
  have q1 := hp.1
  rw [r_args] at q1
  obtain ⟨d0, r, rfl, q2, q3⟩ := hasAllW_cons q1
  obtain rfl := hasAllW_nil q3
  obtain ⟨xs, rfl, q4⟩ := hasW_list q2
  have hl := pre_len hp.2
  cases hreads with
  | cons r1 r2 =>
  cases r2
  cases r1 with
  | list g1 g2 g3 g4 =>
  obtain ⟨ns, e1, e2⟩ := ints_of g4 q4
  have hS : St c [] s₁ := ⟨⟨fun _ _ e => e, Nat.le_refl _, fun p hp => (List.not_mem_nil hp).elim, List.nodup_nil⟩, hgens, rfl⟩
  have F : FnAt c 820 (st 95) := ⟨_, _, _, _, _, _, _, _, _, _, at_k Xc 820 rfl, cr_k Xc (a := 819) rfl rfl⟩
  have L := c_law (A := callerA) (ps_all Xc) F rm0 (ns := ns) ⟨_, ⟨_, g1, g2, _, g3⟩, e1⟩ (by omega) (.ref 820) [.ref _] rfl rfl s₁ hS
  refine wpAny_mono L (fun v s' ⟨σ', h', k'⟩ => ?_) fun _ _ e => e.elim
  have ev : v = .bool true := er_bool k'
  subst ev
  exact ⟨.inl ⟨_, .bool true, [], rfl, r_raises _, .bool _, r_post _, fun _ => ⟨List.nodup_nil, fun _ h => (List.not_mem_nil h).elim⟩⟩, OldK.of_keep h'.hp.keep, h'.os, AllBare.of_eq h'.gens⟩
end
end
end Mine
theorem PySem.Challenge.cw_nn0334_01_holds : PySem.Challenge.rw_nn0334_01.Holds :=
  Mine.holds_of Mine.walk0
